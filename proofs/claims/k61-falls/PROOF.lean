import PyProof.Rows.All
import Wide.All
import OpenK.AllK
import Wide.FinOn
import HandS.ForMost
import HandS.TupAny
import HandS.Zip
import HandS.Deep
import HandS.Wide
import HandS.Gcd
import HandS.Small
import HandS.TupLen
import HandS.SortInts
import HandS.DictTup
import HandS.Conv
import HandS.Flow
import HandS.Style
import HandS.Codes
import HandS.Defaults
import KE.DataEq
import HandS.TupMul
import HandS.NoneIn
import HandS.More
import PyProof.ReprBulk
import KE.SortData
import HandS.EndBits
import HandS.Head0
import HandS.Head1
import HandS.Head2
import HandS.Head3
import HandS.HeadEnd
import HandS.HeadHook1
import HandS.HeadHook2
import KE.KStateDown
import PySem.Challenge.RW_lampsaloft_k61_falls_and_who_is_struck
set_option Elab.async false
set_option linter.all false
set_option maxRecDepth 100000
set_option maxHeartbeats 0
/-! Dn 1: values, stores, the relation to the hand layer's heap. -/
namespace Dn
open PySem PySem.Spec PyProof.Rows L2

/-- a value that never changes -/
inductive PV where
  | non | bl (b : Bool) | int (i : Int) | str (x : Str)
  | tup (xs : List PV) | lst (xs : List PV) | dct (t : Bool) (ks vs : List PV)
  /-- the law's script -/
  | scr (ns : List Int)
  deriving Inhabited
/-- a value, or an object of the store -/
inductive RV where
  | v (x : PV) | ref (n : Nat)
  deriving Inhabited
/-- an object of the store: its contents never change by themselves -/
inductive SO where
  | lst (xs : List PV) | dct (t : Bool) (ks vs : List PV) | ins (C : Str) (fs : List (Str × PV))
abbrev Sto := List SO
abbrev Lo := List (Option RV)
abbrev EM (α : Type) := Lo → Sto → Option (α × Sto)

/-- where values stand: what is frozen, where the store's objects stand, the abstract heap -/
structure VW where
  F : Addr → Prop
  th : List Addr
  H : Hp

def keyPV : Key → PV
  | .inl i => .int i
  | .inr x => .str x

/-- the dict u has these keys and values (R: how values are told) -/
def DRep (R : List PV → List V → Prop) (t : Bool) (ks vs : List PV) (u : HO) : Prop :=
  (t = false ∧ ∃ kvs : List (Key × V), u = .dK kvs ∧ ks = kvs.map (fun p => keyPV p.1) ∧ R vs (kvs.map (·.2))) ∨
  (t = true ∧ ∃ kvs : List (List Key × V), u = .dT kvs ∧ ks = kvs.map (fun p => PV.tup (p.1.map keyPV)) ∧ R vs (kvs.map (·.2)))

/-- the script at a -/
def ScrR (K : PySem.W.Frag) (H : Hp) (a : Addr) (ns : List Int) : Prop := (∃ o, H a = some (.frz o (.lst (ns.map V.int)))) ∨ ∀ H' : Hp, SqL K H' a (ns.map V.int)
theorem ScrR.seq {K : PySem.W.Frag} {H : Hp} {a : Addr} {ns : List Int} (h : ScrR K H a ns) : SqL K H a (ns.map V.int) := by
  rcases h with ⟨o, h⟩ | h
  · exact .inl (.inr ⟨o, h⟩)
  · exact h H

mutual
def Rep (K : PySem.W.Frag) (w : VW) : PV → V → Prop
  | .non, v => v = .non
  | .bl b, v => v = .bl b
  | .int i, v => v = .int i
  | .str x, v => v = .str x
  | .scr ns, v => ∃ a, v = .ref a ∧ ScrR K w.H a ns
  | .tup xs, v => ∃ a vs, v = .ref a ∧ w.H a = some (.tup vs) ∧ RepL K w xs vs
  | .lst xs, v => ∃ a vs, v = .ref a ∧ w.F a ∧ w.H a = some (.lst vs) ∧ RepL K w xs vs
  | .dct t ks vs, v => ∃ a u, v = .ref a ∧ w.F a ∧ Rd w.H a u ∧ ((t = false ∧ ∃ kvs : List (Key × V), u = .dK kvs ∧ ks = kvs.map (fun p => keyPV p.1) ∧ RepL K w vs (kvs.map (·.2))) ∨
      (t = true ∧ ∃ kvs : List (List Key × V), u = .dT kvs ∧ ks = kvs.map (fun p => PV.tup (p.1.map keyPV)) ∧ RepL K w vs (kvs.map (·.2))))
def RepL (K : PySem.W.Frag) (w : VW) : List PV → List V → Prop
  | [], vs => vs = []
  | x :: xs, vs => ∃ v r, vs = v :: r ∧ Rep K w x v ∧ RepL K w xs r
end

def RR (K : PySem.W.Frag) (w : VW) : RV → V → Prop
  | .v x, v => Rep K w x v
  | .ref n, v => ∃ a, w.th[n]? = some a ∧ v = .ref a
def ObjR (K : PySem.W.Frag) (w : VW) : SO → HO → Prop
  | .lst xs, u => ∃ vs, u = .lst vs ∧ RepL K w xs vs
  | .dct t ks vs, u => DRep (RepL K w) t ks vs u
  | .ins C fs, u => False

structure StR (K : PySem.W.Frag) (w : VW) (S : Sto) : Prop where
  len : w.th.length = S.length
  nd : w.th.Nodup
  nf : ∀ a ∈ w.th, ¬ w.F a
  fz : ∀ a, w.F a → w.H a ≠ none
  ob : ∀ (n : Nat) a o, w.th[n]? = some a → S[n]? = some o → ∃ u, w.H a = some u ∧ ObjR K w o u

structure Ext (w w' : VW) : Prop where
  f : ∀ a, w.F a → w'.F a
  k : ∀ a, a ∉ w.th → w.H a ≠ none → w'.H a = w.H a
  h : ∀ a, w.H a ≠ none → w'.H a ≠ none
  p : ∃ nu, w'.th = w.th ++ nu ∧ ∀ a ∈ nu, w.H a = none
  g : ∀ a, w'.F a → w.F a ∨ w.H a = none

theorem Ext.refl (w : VW) : Ext w w := ⟨fun _ h => h, fun _ _ _ => rfl, fun _ h => h, ⟨[], by simp, by simp⟩, fun _ h => .inl h⟩
theorem Ext.trans {a b c : VW} (h : Ext a b) (g : Ext b c) : Ext a c := by
  obtain ⟨nu, e, hn⟩ := h.p
  obtain ⟨mu, e2, hm⟩ := g.p
  refine ⟨fun x q => g.f x (h.f x q), fun x q r => ?_, fun x q => g.h x (h.h x q), ⟨nu ++ mu, by rw [e2, e, List.append_assoc], fun x q => ?_⟩, fun x q => ?_⟩
  · have r1 := h.k x q r
    have q1 : x ∉ b.th := by
      rw [e]
      intro z
      rcases List.mem_append.mp z with z | z
      · exact q z
      · exact r (hn x z)
    exact (g.k x q1 (by rw [r1]; exact r)).trans r1
  · rcases List.mem_append.mp q with q | q
    · exact hn x q
    · exact Classical.byContradiction fun z => h.h x z (hm x q)
  · rcases g.g x q with q | q
    · exact h.g x q
    · exact .inr (Classical.byContradiction fun z => h.h x z q)
theorem Ext.th {w w' : VW} (e : Ext w w') {n : Nat} {a : Addr} (h : w.th[n]? = some a) : w'.th[n]? = some a := by
  obtain ⟨nu, q, _⟩ := e.p
  rw [q, List.getElem?_append_left (List.getElem?_eq_some_iff.mp h).1]
  exact h

/-! ### what is told of values stays -/
section
variable {K : PySem.W.Frag} {w w' : VW} {S : Sto}
theorem StR.not_th_tup (s : StR K w S) {a : Addr} {vs : List V} (h : Rd w.H a (.tup vs)) : a ∉ w.th := by
  intro m
  obtain ⟨n, hn⟩ := List.getElem?_of_mem m
  obtain ⟨hl, _⟩ := List.getElem?_eq_some_iff.mp hn
  rw [s.len] at hl
  obtain ⟨u, hu, ho⟩ := s.ob n a S[n] hn (List.getElem?_eq_getElem hl)
  cases q : S[n] with
  | lst xs =>
    rw [q] at ho
    obtain ⟨_, rfl, _⟩ := ho
    rcases h with h | ⟨_, h⟩ <;> rw [hu] at h <;> cases h
  | dct t ks vs =>
    rw [q] at ho
    rcases ho with ⟨_, _, rfl, _⟩ | ⟨_, _, rfl, _⟩ <;> rcases h with h | ⟨_, h⟩ <;> rw [hu] at h <;> cases h
  | ins C fs =>
    rw [q] at ho
    exact ho.elim
theorem ne_ne {H : Hp} {a p : Addr} (h : H a ≠ none) (hp : H p = none) : a ≠ p := fun e => h (by rw [e]; exact hp)
theorem Rd.ne {H : Hp} {a : Addr} {u : HO} (h : Rd H a u) : H a ≠ none := by
  rcases h with h | ⟨_, h⟩ <;> rw [h] <;> simp
theorem Rd.keep {H H' : Hp} {a : Addr} {u : HO} (h : Rd H a u) (e : H' a = H a) : Rd H' a u := by
  rcases h with h | ⟨o, h⟩
  · exact .inl (e.trans h)
  · exact .inr ⟨o, e.trans h⟩
theorem tup_ext (s : StR K w S) (e : Ext w w') {a : Addr} {vs : List V} (h : w.H a = some (.tup vs)) : w'.H a = some (.tup vs) :=
  (e.k a (s.not_th_tup (.inl h)) (by rw [h]; simp)).trans h
theorem frz_ext (s : StR K w S) (e : Ext w w') {a : Addr} {u : HO} (f : w.F a) (h : w.H a = some u) : w'.H a = some u :=
  (e.k a (fun m => s.nf a m f) (by rw [h]; simp)).trans h
theorem Rd.ext (s : StR K w S) (e : Ext w w') {a : Addr} {u : HO} (f : w.F a) (h : Rd w.H a u) : Rd w'.H a u :=
  Rd.keep h (e.k a (fun m => s.nf a m f) (Rd.ne h))
theorem StR.not_th_frz (s : StR K w S) {a : Addr} {o : Obj} {u : HO} (h : w.H a = some (.frz o u)) : a ∉ w.th := by
  intro m
  obtain ⟨n, hn⟩ := List.getElem?_of_mem m
  obtain ⟨hl, _⟩ := List.getElem?_eq_some_iff.mp hn
  rw [s.len] at hl
  obtain ⟨u, hu, ho⟩ := s.ob n a S[n] hn (List.getElem?_eq_getElem hl)
  rw [h] at hu
  cases hu
  cases q : S[n] with
  | lst xs =>
    rw [q] at ho
    obtain ⟨_, e, _⟩ := ho
    cases e
  | dct t ks vs =>
    rw [q] at ho
    rcases ho with ⟨_, _, e, _⟩ | ⟨_, _, e, _⟩ <;> cases e
  | ins C fs =>
    rw [q] at ho
    exact ho.elim
theorem scr_ext (s : StR K w S) (e : Ext w w') {a : Addr} {ns : List Int} (h : ScrR K w.H a ns) : ScrR K w'.H a ns := by
  rcases h with ⟨o, h⟩ | h
  · exact .inl ⟨o, (e.k a (s.not_th_frz h) (by rw [h]; simp)).trans h⟩
  · exact .inr h
mutual
theorem Rep.ext (s : StR K w S) (e : Ext w w') : ∀ (x : PV) (v : V), Rep K w x v → Rep K w' x v
  | .non, _, h => h
  | .bl _, _, h => h
  | .int _, _, h => h
  | .str _, _, h => h
  | .scr ns, v, h => by
    unfold Rep at h ⊢
    obtain ⟨a, e1, h1⟩ := h
    exact ⟨a, e1, scr_ext s e h1⟩
  | .tup xs, v, h => by
    unfold Rep at h ⊢
    obtain ⟨a, vs, e1, h1, h2⟩ := h
    exact ⟨a, vs, e1, tup_ext s e h1, RepL.ext s e xs vs h2⟩
  | .lst xs, v, h => by
    unfold Rep at h ⊢
    obtain ⟨a, vs, e1, h0, h1, h2⟩ := h
    exact ⟨a, vs, e1, e.f a h0, frz_ext s e h0 h1, RepL.ext s e xs vs h2⟩
  | .dct t ks vs, v, h => by
    unfold Rep at h ⊢
    obtain ⟨a, u, e1, h0, h1, h2⟩ := h
    refine ⟨a, u, e1, e.f a h0, Rd.ext s e h0 h1, ?_⟩
    rcases h2 with ⟨d, kvs, e2, e3, h2⟩ | ⟨d, kvs, e2, e3, h2⟩
    · exact .inl ⟨d, kvs, e2, e3, RepL.ext s e vs _ h2⟩
    · exact .inr ⟨d, kvs, e2, e3, RepL.ext s e vs _ h2⟩
theorem RepL.ext (s : StR K w S) (e : Ext w w') : ∀ (xs : List PV) (vs : List V), RepL K w xs vs → RepL K w' xs vs
  | [], _, h => h
  | x :: xs, vs, h => by
    unfold RepL at h ⊢
    obtain ⟨v, r, e1, h1, h2⟩ := h
    exact ⟨v, r, e1, Rep.ext s e x v h1, RepL.ext s e xs r h2⟩
end
mutual
theorem Rep.weak (hF : ∀ a, w.F a → w'.F a) (hH : w'.H = w.H) : ∀ (x : PV) (v : V), Rep K w x v → Rep K w' x v
  | .non, _, h => h
  | .bl _, _, h => h
  | .int _, _, h => h
  | .str _, _, h => h
  | .scr ns, v, h => by
    unfold Rep at h ⊢
    rw [hH]
    exact h
  | .tup xs, v, h => by
    unfold Rep at h ⊢
    obtain ⟨a, vs, e1, h1, h2⟩ := h
    exact ⟨a, vs, e1, by rw [hH]; exact h1, RepL.weak hF hH xs vs h2⟩
  | .lst xs, v, h => by
    unfold Rep at h ⊢
    obtain ⟨a, vs, e1, h0, h1, h2⟩ := h
    exact ⟨a, vs, e1, hF a h0, by rw [hH]; exact h1, RepL.weak hF hH xs vs h2⟩
  | .dct t ks vs, v, h => by
    unfold Rep at h ⊢
    obtain ⟨a, u, e1, h0, h1, h2⟩ := h
    refine ⟨a, u, e1, hF a h0, by rw [hH]; exact h1, ?_⟩
    rcases h2 with ⟨d, kvs, e2, e3, h2⟩ | ⟨d, kvs, e2, e3, h2⟩
    · exact .inl ⟨d, kvs, e2, e3, RepL.weak hF hH vs _ h2⟩
    · exact .inr ⟨d, kvs, e2, e3, RepL.weak hF hH vs _ h2⟩
theorem RepL.weak (hF : ∀ a, w.F a → w'.F a) (hH : w'.H = w.H) : ∀ (xs : List PV) (vs : List V), RepL K w xs vs → RepL K w' xs vs
  | [], _, h => h
  | x :: xs, vs, h => by
    unfold RepL at h ⊢
    obtain ⟨v, r, e1, h1, h2⟩ := h
    exact ⟨v, r, e1, Rep.weak hF hH x v h1, RepL.weak hF hH xs r h2⟩
end
theorem RR.ext (s : StR K w S) (e : Ext w w') {x : RV} {v : V} (h : RR K w x v) : RR K w' x v := by
  cases x with
  | v x => exact Rep.ext s e x v h
  | ref n =>
    obtain ⟨a, h1, h2⟩ := h
    exact ⟨a, e.th h1, h2⟩
theorem RepL.length : ∀ {xs : List PV} {vs : List V}, RepL K w xs vs → xs.length = vs.length
  | [], vs, h => by
    have e : vs = [] := h
    rw [e]
    rfl
  | x :: xs, vs, h => by
    unfold RepL at h
    obtain ⟨v, r, rfl, _, h2⟩ := h
    simp [RepL.length h2]
theorem RepL.get : ∀ {xs : List PV} {vs : List V} {i : Nat} {x : PV}, RepL K w xs vs → xs[i]? = some x → ∃ v, vs[i]? = some v ∧ Rep K w x v
  | [], _, _, _, _, h => by simp at h
  | x :: xs, vs, 0, y, h, e => by
    unfold RepL at h
    obtain ⟨v, r, rfl, h1, h2⟩ := h
    simp at e
    subst e
    exact ⟨v, rfl, h1⟩
  | x :: xs, vs, i + 1, y, h, e => by
    unfold RepL at h
    obtain ⟨v, r, rfl, h1, h2⟩ := h
    obtain ⟨u, e1, e2⟩ := RepL.get (i := i) h2 (by simpa using e)
    exact ⟨u, by simpa using e1, e2⟩
theorem RepL.append : ∀ {xs ys : List PV} {vs us : List V}, RepL K w xs vs → RepL K w ys us → RepL K w (xs ++ ys) (vs ++ us)
  | [], _, vs, _, h, g => by
    have e : vs = [] := h
    rw [e]
    exact g
  | x :: xs, ys, vs, us, h, g => by
    unfold RepL at h
    obtain ⟨v, r, rfl, h1, h2⟩ := h
    show RepL K w (x :: (xs ++ ys)) (v :: (r ++ us))
    unfold RepL
    exact ⟨v, r ++ us, rfl, h1, RepL.append h2 g⟩
theorem RepL.one {x : PV} {v : V} (h : Rep K w x v) : RepL K w [x] [v] := by
  unfold RepL
  exact ⟨v, [], rfl, h, by unfold RepL; rfl⟩
theorem RepL.take : ∀ {xs : List PV} {vs : List V} (n : Nat), RepL K w xs vs → RepL K w (xs.take n) (vs.take n)
  | [], vs, n, h => by
    have e : vs = [] := h
    rw [e]
    simp only [List.take_nil]
    unfold RepL
    rfl
  | x :: xs, vs, 0, h => by
    show RepL K w [] []
    unfold RepL
    rfl
  | x :: xs, vs, n + 1, h => by
    unfold RepL at h
    obtain ⟨v, r, rfl, h1, h2⟩ := h
    show RepL K w (x :: xs.take n) (v :: r.take n)
    unfold RepL
    exact ⟨v, _, rfl, h1, RepL.take n h2⟩
theorem RepL.drop : ∀ {xs : List PV} {vs : List V} (n : Nat), RepL K w xs vs → RepL K w (xs.drop n) (vs.drop n)
  | [], vs, n, h => by
    have e : vs = [] := h
    rw [e]
    simp only [List.drop_nil]
    unfold RepL
    rfl
  | x :: xs, vs, 0, h => h
  | x :: xs, vs, n + 1, h => by
    unfold RepL at h
    obtain ⟨v, r, rfl, h1, h2⟩ := h
    exact RepL.drop n h2
theorem RepL.set : ∀ {xs : List PV} {vs : List V} (i : Nat) {y : PV} {u : V}, RepL K w xs vs → Rep K w y u → RepL K w (xs.set i y) (vs.set i u)
  | [], vs, i, y, u, h, g => by
    have e : vs = [] := h
    subst e
    exact h
  | x :: xs, vs, 0, y, u, h, g => by
    unfold RepL at h
    obtain ⟨v, r, rfl, h1, h2⟩ := h
    show RepL K w (y :: xs) (u :: r)
    unfold RepL
    exact ⟨u, r, rfl, g, h2⟩
  | x :: xs, vs, i + 1, y, u, h, g => by
    unfold RepL at h
    obtain ⟨v, r, rfl, h1, h2⟩ := h
    show RepL K w (x :: xs.set i y) (v :: r.set i u)
    unfold RepL
    exact ⟨v, _, rfl, h1, RepL.set i h2 g⟩
theorem RepL.reverse : ∀ {xs : List PV} {vs : List V}, RepL K w xs vs → RepL K w xs.reverse vs.reverse
  | [], vs, h => by
    have e : vs = [] := h
    subst e
    exact h
  | x :: xs, vs, h => by
    unfold RepL at h
    obtain ⟨v, r, rfl, h1, h2⟩ := h
    simp only [List.reverse_cons]
    exact (RepL.reverse h2).append (RepL.one h1)
/-- every list of the same length whose items are told one by one -/
theorem RepL.of_get : ∀ {xs : List PV} {vs : List V}, xs.length = vs.length → (∀ (i : Nat) x v, xs[i]? = some x → vs[i]? = some v → Rep K w x v) → RepL K w xs vs
  | [], vs, h, _ => by
    have e : vs = [] := by
      cases vs with
      | nil => rfl
      | cons a b => simp at h
    rw [e]
    unfold RepL
    rfl
  | x :: xs, [], h, _ => by simp at h
  | x :: xs, v :: r, h, g => by
    unfold RepL
    exact ⟨v, r, rfl, g 0 x v rfl rfl, RepL.of_get (by simpa using h) fun i y u a b => g (i + 1) y u (by simpa using a) (by simpa using b)⟩

/-! ### what an operation looks at -/
/-- a value as it is read: a list, a dict of the store too -/
def RepW (K : PySem.W.Frag) (w : VW) : PV → V → Prop
  | .lst xs, v => ∃ a vs, v = .ref a ∧ w.H a = some (.lst vs) ∧ RepL K w xs vs
  | .dct t ks vs, v => ∃ a u, v = .ref a ∧ Rd w.H a u ∧ DRep (RepL K w) t ks vs u
  | x, v => Rep K w x v
theorem Rep.toW {x : PV} {v : V} (h : Rep K w x v) : RepW K w x v := by
  cases x with
  | lst xs =>
    unfold Rep at h
    obtain ⟨a, vs, e1, _, h1, h2⟩ := h
    exact ⟨a, vs, e1, h1, h2⟩
  | dct t ks vs =>
    unfold Rep at h
    obtain ⟨a, u, e1, _, h1, h2⟩ := h
    exact ⟨a, u, e1, h1, h2⟩
  | _ => exact h
def SO.pv : SO → Option PV
  | .lst xs => some (.lst xs)
  | .dct t ks vs => some (.dct t ks vs)
  | .ins _ _ => none
def peek (S : Sto) : RV → Option PV
  | .v x => some x
  | .ref n => (S[n]?).bind SO.pv
theorem RR.toW (s : StR K w S) {x : RV} {v : V} {y : PV} (h : RR K w x v) (p : peek S x = some y) : RepW K w y v := by
  cases x with
  | v x =>
    cases p
    exact Rep.toW h
  | ref n =>
    obtain ⟨a, h1, h2⟩ := h
    obtain ⟨o, q, p⟩ := Option.bind_eq_some_iff.mp p
    obtain ⟨u, hu, ho⟩ := s.ob n a o h1 q
    cases o with
    | lst xs =>
      cases p
      obtain ⟨vs, rfl, r⟩ := ho
      exact ⟨a, vs, h2, hu, r⟩
    | dct t ks vs =>
      cases p
      exact ⟨a, u, h2, .inl hu, ho⟩
    | ins C fs => cases p
end

/-! ### new objects -/
section
variable {K : PySem.W.Frag} {w : VW} {S : Sto} {p : Addr}
/-- a new object at p, of the store or not -/
def VW.new (w : VW) (p : Addr) (u : HO) (fr : Bool) (st : Bool) : VW := ⟨fun a => w.F a ∨ (fr = true ∧ a = p), if st then w.th ++ [p] else w.th, upd w.H p u⟩
theorem Ext.new {u : HO} {fr st : Bool} (hp : w.H p = none) : Ext w (w.new p u fr st) := by
  refine ⟨fun a h => .inl h, fun a _ hn => ?_, fun a hn => ?_, ⟨if st then [p] else [], ?_, fun a m => ?_⟩, fun a f => ?_⟩
  · exact upd_ne (ne_ne hn hp)
  · show upd w.H p u a ≠ none
    rw [upd_ne (ne_ne hn hp)]
    exact hn
  · cases st
    · simp [VW.new]
    · simp [VW.new]
  · cases st
    · simp at m
    · simp at m
      rw [m]
      exact hp
  · rcases f with f | ⟨_, f⟩
    · exact .inl f
    · exact .inr (by rw [f]; exact hp)
theorem DRep.mono {R R' : List PV → List V → Prop} {t : Bool} {ks vs : List PV} {u : HO} (h : DRep R t ks vs u) (f : ∀ xs ys, R xs ys → R' xs ys) : DRep R' t ks vs u := by
  rcases h with ⟨d, kvs, a, b, c⟩ | ⟨d, kvs, a, b, c⟩
  · exact .inl ⟨d, kvs, a, b, f _ _ c⟩
  · exact .inr ⟨d, kvs, a, b, f _ _ c⟩
theorem ObjR.ext {w' : VW} (s : StR K w S) (e : Ext w w') {o : SO} {u : HO} (h : ObjR K w o u) : ObjR K w' o u := by
  cases o with
  | lst xs =>
    obtain ⟨vs, e1, r⟩ := h
    exact ⟨vs, e1, RepL.ext s e _ _ r⟩
  | dct t ks vs => exact DRep.mono h fun _ _ r => RepL.ext s e _ _ r
  | ins C fs => exact h
/-- a new object that is no object of the store -/
theorem StR.new {u : HO} {fr : Bool} (s : StR K w S) (hp : w.H p = none) : StR K (w.new p u fr false) S := by
  have e := Ext.new (w := w) (u := u) (fr := fr) (st := false) hp
  have hth : (w.new p u fr false).th = w.th := rfl
  refine ⟨s.len, s.nd, fun a m f => ?_, fun a f => ?_, fun n a o h1 h2 => ?_⟩
  · rcases f with f | ⟨_, f⟩
    · exact s.nf a m f
    · obtain ⟨n, hn⟩ := List.getElem?_of_mem m
      have hl : n < S.length := by
        rw [← s.len]
        exact (List.getElem?_eq_some_iff.mp hn).1
      obtain ⟨v, hv, _⟩ := s.ob n a S[n] hn (List.getElem?_eq_getElem hl)
      rw [f, hp] at hv
      cases hv
  · show upd w.H p u a ≠ none
    rcases f with f | ⟨_, f⟩
    · rw [upd_ne (ne_ne (s.fz a f) hp)]
      exact s.fz a f
    · rw [f, upd_same]
      simp
  · obtain ⟨v, hv, ho⟩ := s.ob n a o h1 h2
    refine ⟨v, ?_, ObjR.ext s e ho⟩
    show upd w.H p u a = some v
    rw [upd_ne (ne_of_none hv hp)]
    exact hv
/-- a new object of the store -/
theorem StR.push {u : HO} {o : SO} (s : StR K w S) (hp : w.H p = none) (ho : ObjR K (w.new p u false true) o u) : StR K (w.new p u false true) (S ++ [o]) := by
  have e := Ext.new (w := w) (u := u) (fr := false) (st := true) hp
  have hth : (w.new p u false true).th = w.th ++ [p] := rfl
  have pth : p ∉ w.th := fun m => by
    obtain ⟨n, hn⟩ := List.getElem?_of_mem m
    have hl : n < S.length := by
      rw [← s.len]
      exact (List.getElem?_eq_some_iff.mp hn).1
    obtain ⟨v, hv, _⟩ := s.ob n p S[n] hn (List.getElem?_eq_getElem hl)
    rw [hp] at hv
    cases hv
  refine ⟨?_, ?_, fun a m f => ?_, fun a f => ?_, fun n a o' h1 h2 => ?_⟩
  · rw [hth, List.length_append, List.length_append, s.len]
    rfl
  · rw [hth]
    refine List.nodup_append.mpr ⟨s.nd, by simp, fun a ha b hb => ?_⟩
    have : b = p := by simpa using hb
    intro z
    exact pth (this ▸ z ▸ ha)
  · rcases f with f | ⟨f, _⟩
    · rw [hth] at m
      rcases List.mem_append.mp m with m | m
      · exact s.nf a m f
      · have z : a = p := by simpa using m
        exact s.fz a f (z ▸ hp)
    · cases f
  · show upd w.H p u a ≠ none
    rcases f with f | ⟨f, _⟩
    · rw [upd_ne (ne_ne (s.fz a f) hp)]
      exact s.fz a f
    · cases f
  · rw [hth] at h1
    by_cases hn : n < w.th.length
    · rw [List.getElem?_append_left hn] at h1
      rw [List.getElem?_append_left (by rw [← s.len]; exact hn)] at h2
      obtain ⟨v, hv, ho'⟩ := s.ob n a o' h1 h2
      refine ⟨v, ?_, ObjR.ext s e ho'⟩
      show upd w.H p u a = some v
      rw [upd_ne (ne_of_none hv hp)]
      exact hv
    · have hl := (List.getElem?_eq_some_iff.mp h1).1
      rw [List.length_append] at hl
      have en : n = w.th.length := by
        have : n < w.th.length + 1 := hl
        omega
      subst en
      rw [List.getElem?_append_right (Nat.le_refl _)] at h1
      rw [List.getElem?_append_right (by rw [s.len]; exact Nat.le_refl _)] at h2
      simp at h1
      have e2 : w.th.length - S.length = 0 := by
        rw [s.len]
        omega
      rw [e2] at h2
      simp at h2
      subst h1 h2
      exact ⟨u, upd_same, ho⟩
end
end Dn

/-! Dn 2: readings of the store's functions; expressions. -/
namespace Dn
open PySem PySem.Spec PyProof.Rows L2

/-- the slots -/
def LoR (K : PySem.W.Frag) (w : VW) (r : Lo) (σ : L2.St) : Prop := σ.length = r.length ∧ ∀ (i : Nat) x, r[i]? = some (some x) → ∃ v, σ[i]? = some (some v) ∧ RR K w x v
def RRL (K : PySem.W.Frag) (w : VW) : List RV → List V → Prop
  | [], vs => vs = []
  | x :: xs, vs => ∃ v r, vs = v :: r ∧ RR K w x v ∧ RRL K w xs r
theorem LoR.ext {K : PySem.W.Frag} {w w' : VW} {S : Sto} {r : Lo} {σ : L2.St} (s : StR K w S) (e : Ext w w') (h : LoR K w r σ) : LoR K w' r σ :=
  ⟨h.1, fun i x q => let ⟨v, a, b⟩ := h.2 i x q; ⟨v, a, RR.ext s e b⟩⟩
theorem RRL.ext {K : PySem.W.Frag} {w w' : VW} {S : Sto} (s : StR K w S) (e : Ext w w') : ∀ {xs : List RV} {vs : List V}, RRL K w xs vs → RRL K w' xs vs
  | [], _, h => h
  | x :: xs, vs, h => by
    obtain ⟨v, r, e1, h1, h2⟩ := h
    exact ⟨v, r, e1, RR.ext s e h1, RRL.ext s e h2⟩
theorem RRL.length {K : PySem.W.Frag} {w : VW} : ∀ {xs : List RV} {vs : List V}, RRL K w xs vs → xs.length = vs.length
  | [], vs, h => by
    have e : vs = [] := h
    rw [e]
    rfl
  | x :: xs, vs, h => by
    obtain ⟨v, r, rfl, _, h2⟩ := h
    simp [RRL.length h2]

/-- what is returned: a value, or a tuple of values and objects -/
inductive Ret where
  | one (x : RV) | many (xs : List RV)
inductive Out where
  | nx (r : Lo) | rt (x : Ret) | bk (r : Lo) | ct (r : Lo)
abbrev SM := Lo → Sto → Option (Out × Sto)

section
variable (K : PySem.W.Frag)
def rE (m : EM RV) : TE := fun σ H Q => ∃ w S r, w.H = H ∧ StR K w S ∧ LoR K w r σ ∧ ∃ x S', m r S = some (x, S') ∧ ∀ w' v, Ext w w' → StR K w' S' → RR K w' x v → Q v w'.H
def rT (m : EM Bool) : TT := fun σ H Q => ∃ w S r, w.H = H ∧ StR K w S ∧ LoR K w r σ ∧ ∃ b S', m r S = some (b, S') ∧ ∀ w', Ext w w' → StR K w' S' → Q b w'.H
def rA (m : EM (List RV)) : TA := fun σ H Q => ∃ w S r, w.H = H ∧ StR K w S ∧ LoR K w r σ ∧ ∃ xs S', m r S = some (xs, S') ∧ ∀ w' vs, Ext w w' → StR K w' S' → RRL K w' xs vs → Q vs w'.H
def RetW (w : VW) (S' : Sto) (D : Ends) : Ret → Prop
  | .one x => ∀ w' v, Ext w w' → StR K w' S' → RR K w' x v → D.rt v w'.H
  | .many xs => ∀ w' vs p, Ext w w' → StR K w' S' → RRL K w' xs vs → w'.H p = none → D.rt (.ref p) (upd w'.H p (.tup vs))
/-- what is wanted behind a statement's outcome -/
def OutW (w : VW) (S' : Sto) (D : Ends) : Out → Prop
  | .nx r' => ∀ w' σ', Ext w w' → StR K w' S' → LoR K w' r' σ' → D.nx σ' w'.H
  | .rt x => RetW K w S' D x
  | .bk r' => ∀ w' σ', Ext w w' → StR K w' S' → LoR K w' r' σ' → D.bk σ' w'.H
  | .ct r' => ∀ w' σ', Ext w w' → StR K w' S' → LoR K w' r' σ' → D.ct σ' w'.H
def rS (m : SM) : TS := fun D σ H => ∃ w S r, w.H = H ∧ StR K w S ∧ LoR K w r σ ∧ ∃ o S', m r S = some (o, S') ∧ OutW K w S' D o
end
theorem RetW.ext {K : PySem.W.Frag} {w w1 : VW} {S' : Sto} {D : Ends} {x : Ret} (e : Ext w w1) (h : RetW K w S' D x) : RetW K w1 S' D x := by
  cases x with
  | one x => exact fun w' v e' => h w' v (e.trans e')
  | many xs => exact fun w' vs p e' => h w' vs p (e.trans e')
theorem OutW.ext {K : PySem.W.Frag} {w w1 : VW} {S' : Sto} {D : Ends} {o : Out} (e : Ext w w1) (h : OutW K w S' D o) : OutW K w1 S' D o := by
  cases o with
  | nx r' => exact fun w' σ' e' => h w' σ' (e.trans e')
  | rt x => exact RetW.ext e h
  | bk r' => exact fun w' σ' e' => h w' σ' (e.trans e')
  | ct r' => exact fun w' σ' e' => h w' σ' (e.trans e')

section
variable {X : Cx} {a b c e : Expr} {es : List Expr} {ma mb mc : EM RV} {pos : Pos}
theorem PE.mono {t t' : TE} (h : PE X e t) (f : ∀ σ H Q, t' σ H Q → t σ H Q) : PE X e t' := ⟨fun pins s σ H Q I q => h.run pins s σ H Q I (f σ H Q q)⟩
theorem PT.mono {t t' : TT} (h : PT X e t) (f : ∀ σ H Q, t' σ H Q → t σ H Q) : PT X e t' := ⟨fun pins s σ H Q I q => h.run pins s σ H Q I (f σ H Q q)⟩
theorem PA.mono {t t' : TA} (h : PA X es t) (f : ∀ σ H Q, t' σ H Q → t σ H Q) : PA X es t' := ⟨fun pos pins s σ H Q I q => h.run pos pins s σ H Q I (f σ H Q q)⟩
theorem PS.mono {st : Stmt} {t t' : TS} (h : PS X st t) (f : ∀ D σ H, t' D σ H → t D σ H) : PS X st t' := ⟨fun pins s σ H D I q => h.run pins s σ H D I (f D σ H q)⟩
theorem PSs.mono {st : List Stmt} {t t' : TS} (h : PSs X st t) (f : ∀ D σ H, t' D σ H → t D σ H) : PSs X st t' := ⟨fun pins s σ H D I q => h.run pins s σ H D I (f D σ H q)⟩

/-! ### names, constants -/
def eVar (i : Nat) : EM RV := fun r S => match r[i]? with
  | some (some x) => some (x, S)
  | _ => none
def eC (x : PV) : EM RV := fun _ S => some (.v x, S)
def eNo {α : Type} : EM α := fun _ _ => none
theorem de_no : PE X e (rE X.K eNo) := ⟨fun _ _ _ _ _ _ h => by obtain ⟨_, _, _, _, _, _, _, _, h, _⟩ := h; cases h⟩
theorem dt_no : PT X e (rT X.K eNo) := ⟨fun _ _ _ _ _ _ h => by obtain ⟨_, _, _, _, _, _, _, _, h, _⟩ := h; cases h⟩
theorem eVar_some {i : Nat} {r : Lo} {S S' : Sto} {x : RV} (h : eVar i r S = some (x, S')) : r[i]? = some (some x) ∧ S' = S := by
  unfold eVar at h
  split at h
  · rename_i y hy
    cases h
    exact ⟨hy, rfl⟩
  · cases h
theorem de_var {i : Nat} {x : Str} (hN : X.N[i]? = some x) (hv : Vis X.env.scope x) (hd : (x == ("__debug__" : Str)) = false) (hcd : (x == ("__classdict__" : Str)) = false) : PE X (.Name x pos) (rE X.K (eVar i)) :=
  PE.mono (pe_var hN hv hd hcd) fun σ H Q h => by
    obtain ⟨w, S, r, rfl, s, l, y, S', h, q⟩ := h
    obtain ⟨e1, rfl⟩ := eVar_some h
    obtain ⟨v, e2, rv⟩ := l.2 i y e1
    exact ⟨v, e2, q w v (Ext.refl w) s rv⟩
theorem de_const {v : V} {x : PV} (h : PE X e (tC v)) (r : ∀ w, Rep X.K w x v) : PE X e (rE X.K (eC x)) :=
  PE.mono h fun σ H Q h => by
    obtain ⟨w, S, r', rfl, s, l, y, S', h, q⟩ := h
    cases h
    exact q w v (Ext.refl w) s (r w)
theorem de_int {i : Int} {j} : PE X (.Constant (.int i) j pos) (rE X.K (eC (.int i))) := de_const pe_int fun _ => rfl
theorem de_bl {i : Bool} {j} : PE X (.Constant (.bool i) j pos) (rE X.K (eC (.bl i))) := de_const pe_bl fun _ => rfl
theorem de_str {i : Str} {j} : PE X (.Constant (.str i) j pos) (rE X.K (eC (.str i))) := de_const pe_str fun _ => rfl
theorem de_non {j} : PE X (.Constant .none j pos) (rE X.K (eC .non)) := de_const pe_non fun _ => rfl

/-! ### two expressions, then an operation by values -/
/-- an operation on two values that are looked at, and gives a value (what it makes is new) -/
def e2 (g : PV → PV → Option PV) (ma mb : EM RV) : EM RV := fun r S => (ma r S).bind fun p => (mb r p.2).bind fun q => (peek q.2 p.1).bind fun x => (peek q.2 q.1).bind fun y => (g x y).map fun z => (.v z, q.2)
def r2 (K : PySem.W.Frag) (g : PV → PV → Option PV) : R2 := fun x y H Q => ∃ w S px py z, w.H = H ∧ StR K w S ∧ RepW K w px x ∧ RepW K w py y ∧ g px py = some z ∧ ∀ w' v, Ext w w' → StR K w' S → Rep K w' z v → Q v w'.H
theorem e2_some {g : PV → PV → Option PV} {r : Lo} {S S' : Sto} {x : RV} (h : e2 g ma mb r S = some (x, S')) :
    ∃ xa Sa xb px py z, ma r S = some (xa, Sa) ∧ mb r Sa = some (xb, S') ∧ peek S' xa = some px ∧ peek S' xb = some py ∧ g px py = some z ∧ x = .v z := by
  obtain ⟨⟨xa, Sa⟩, h1, h⟩ := Option.bind_eq_some_iff.mp h
  obtain ⟨⟨xb, Sb⟩, h2, h⟩ := Option.bind_eq_some_iff.mp h
  obtain ⟨px, h3, h⟩ := Option.bind_eq_some_iff.mp h
  obtain ⟨py, h4, h⟩ := Option.bind_eq_some_iff.mp h
  obtain ⟨z, h5, h⟩ := Option.map_eq_some_iff.mp h
  cases h
  exact ⟨xa, Sa, xb, px, py, z, h1, h2, h3, h4, h5, rfl⟩
/-- the reading of two operands, whatever follows -/
theorem two_read {K : PySem.W.Frag} {g : PV → PV → Option PV} {σ : L2.St} {H : Hp} {Q : VK} (h : rE K (e2 g ma mb) σ H Q) :
    rE K ma σ H fun x H1 => rE K mb σ H1 fun y H2 => r2 K g x y H2 Q := by
  obtain ⟨w, S, r, rfl, s, l, x, S', h, q⟩ := h
  obtain ⟨xa, Sa, xb, px, py, z, h1, h2, h3, h4, h5, rfl⟩ := e2_some h
  refine ⟨w, S, r, rfl, s, l, xa, Sa, h1, fun w1 v e1 s1 rv => ?_⟩
  refine ⟨w1, Sa, r, rfl, s1, l.ext s e1, xb, S', h2, fun w2 u e2 s2 ru => ?_⟩
  exact ⟨w2, S', px, py, z, rfl, s2, (RR.ext s1 e2 rv).toW s2 h3, ru.toW s2 h4, h5, fun w' v' e' s' r' => q w' v' ((e1.trans e2).trans e') s' r'⟩
theorem de_op {op : Operator} {g : PV → PV → Option PV} (ho : OpR X (binaryOp op) (r2 X.K g)) (ha : PE X a (rE X.K ma)) (hb : PE X b (rE X.K mb)) : PE X (.BinOp a op b pos) (rE X.K (e2 g ma mb)) :=
  PE.mono (pe_op ho ha hb) fun σ H Q h => two_read h
theorem de_cmp {op : CmpOp} {g : PV → PV → Option PV} (ho : OpR X (compareOp op) (r2 X.K g)) (ha : PE X a (rE X.K ma)) (hb : PE X b (rE X.K mb)) (hm : behindInMarks op b = false) : PE X (.Compare a [op] [b] pos) (rE X.K (e2 g ma mb)) :=
  PE.mono (pe_cmpR ho ha hb hm) fun σ H Q h => two_read h
/-- an expression whose value is a bool, as a test -/
def tB (m : EM RV) : EM Bool := fun r S => (m r S).bind fun p => match p.1 with
  | .v (.bl b) => some (b, p.2)
  | _ => none
theorem tB_some {m : EM RV} {r : Lo} {S S' : Sto} {b : Bool} (h : tB m r S = some (b, S')) : m r S = some (.v (.bl b), S') := by
  obtain ⟨⟨x, Sx⟩, h1, h⟩ := Option.bind_eq_some_iff.mp h
  cases x with
  | ref n => cases h
  | v x => cases x with
    | bl c =>
      cases h
      exact h1
    | _ => cases h
theorem test_read {K : PySem.W.Frag} {m : EM RV} {σ : L2.St} {H : Hp} {Q : Bool → Hp → Prop} (h : rT K (tB m) σ H Q) : rE K m σ H fun x H1 => ∃ c, x = .bl c ∧ Q c H1 := by
  obtain ⟨w, S, r, rfl, s, l, b, S', h, q⟩ := h
  exact ⟨w, S, r, rfl, s, l, _, S', tB_some h, fun w' v e' s' rv => ⟨b, rv, q w' e' s'⟩⟩
theorem dt_cmp {op : CmpOp} {g : PV → PV → Option PV} (ho : OpR X (compareOp op) (r2 X.K g)) (ha : PE X a (rE X.K ma)) (hb : PE X b (rE X.K mb)) (hm : behindInMarks op b = false) : PT X (.Compare a [op] [b] pos) (rT X.K (tB (e2 g ma mb))) :=
  PT.mono (pt_cmpR ho ha hb hm) fun σ H Q h => two_read (test_read h)
theorem dt_val {m : EM RV} (h : PE X e (rE X.K m)) (he : ∀ whole, isTrue e X.env whole = (do let v ← whole; standAt e.pos; holding [v] (truthy v))) : PT X e (rT X.K (tB m)) :=
  PT.mono (pt_val h he) fun σ H Q h => test_read h

/-! ### not, and, or, if -/
def tN (m : EM Bool) : EM Bool := fun r S => (m r S).map fun p => (!p.1, p.2)
def tAn (m n : EM Bool) : EM Bool := fun r S => (m r S).bind fun p => if p.1 = true then n r p.2 else some (false, p.2)
def tOr (m n : EM Bool) : EM Bool := fun r S => (m r S).bind fun p => if p.1 = true then some (true, p.2) else n r p.2
def eBo (m : EM Bool) : EM RV := fun r S => (m r S).map fun p => (.v (.bl p.1), p.2)
variable {ta tb : EM Bool} {rest : List Expr}
theorem PW.mono {t t' : TT} (h : PW X e t) (f : ∀ σ H Q, t' σ H Q → t σ H Q) : PW X e t' := ⟨fun wh pins s σ H Q I q => h.run wh pins s σ H Q I (f σ H Q q)⟩
theorem dt_not (ha : PT X a (rT X.K ta)) : PT X (.UnaryOp .Not a pos) (rT X.K (tN ta)) :=
  PT.mono (pt_not ha) fun σ H Q h => by
    obtain ⟨w, S, r, rfl, s, l, b, S', h, q⟩ := h
    obtain ⟨⟨c, S2⟩, h1, h⟩ := Option.map_eq_some_iff.mp h
    cases h
    exact ⟨w, S, r, rfl, s, l, c, _, h1, q⟩
theorem and_read {K : PySem.W.Frag} {σ : L2.St} {H : Hp} {Q : Bool → Hp → Prop} (h : rT K (tAn ta tb) σ H Q) : rT K ta σ H fun c H1 => if c = true then rT K tb σ H1 Q else Q false H1 := by
  obtain ⟨w, S, r, rfl, s, l, b, S', h, q⟩ := h
  obtain ⟨⟨c, S1⟩, h1, h⟩ := Option.bind_eq_some_iff.mp h
  refine ⟨w, S, r, rfl, s, l, c, S1, h1, fun w1 e1 s1 => ?_⟩
  cases c with
  | true => exact ⟨w1, S1, r, rfl, s1, l.ext s e1, b, S', h, fun w' e' s' => q w' (e1.trans e') s'⟩
  | false =>
    cases h
    exact q w1 e1 s1
theorem or_read {K : PySem.W.Frag} {σ : L2.St} {H : Hp} {Q : Bool → Hp → Prop} (h : rT K (tOr ta tb) σ H Q) : rT K ta σ H fun c H1 => if c = true then Q true H1 else rT K tb σ H1 Q := by
  obtain ⟨w, S, r, rfl, s, l, b, S', h, q⟩ := h
  obtain ⟨⟨c, S1⟩, h1, h⟩ := Option.bind_eq_some_iff.mp h
  refine ⟨w, S, r, rfl, s, l, c, S1, h1, fun w1 e1 s1 => ?_⟩
  cases c with
  | false => exact ⟨w1, S1, r, rfl, s1, l.ext s e1, b, S', h, fun w' e' s' => q w' (e1.trans e') s'⟩
  | true =>
    cases h
    exact q w1 e1 s1
theorem dw_and1 (ha : PT X a (rT X.K ta)) : PW X (.BoolOp .And [a] pos) (rT X.K ta) := pw_and1 ha
theorem dw_or1 (ha : PT X a (rT X.K ta)) : PW X (.BoolOp .Or [a] pos) (rT X.K ta) := pw_or1 ha
theorem dw_and (ha : PT X a (rT X.K ta)) (hb : PW X (.BoolOp .And (b :: rest) pos) (rT X.K tb)) : PW X (.BoolOp .And (a :: b :: rest) pos) (rT X.K (tAn ta tb)) :=
  PW.mono (pw_and ha hb) fun _ _ _ h => and_read h
theorem dw_or (ha : PT X a (rT X.K ta)) (hb : PW X (.BoolOp .Or (b :: rest) pos) (rT X.K tb)) : PW X (.BoolOp .Or (a :: b :: rest) pos) (rT X.K (tOr ta tb)) :=
  PW.mono (pw_or ha hb) fun _ _ _ h => or_read h
/-- .. as values -/
theorem bo_read {K : PySem.W.Frag} {m : EM RV} {σ : L2.St} {H : Hp} {Q : VK} (h : rE K (eBo (tB m)) σ H Q) : rE K m σ H fun x H1 => ∃ c, x = .bl c ∧ Q (.bl c) H1 := by
  obtain ⟨w, S, r, rfl, s, l, x, S', h, q⟩ := h
  obtain ⟨⟨b, S1⟩, h1, h⟩ := Option.map_eq_some_iff.mp h
  cases h
  exact ⟨w, S, r, rfl, s, l, _, _, tB_some h1, fun w' v e' s' rv => ⟨b, rv, q w' _ e' s' rfl⟩⟩
theorem de_not (ha : PE X a (rE X.K ma)) : PE X (.UnaryOp .Not a pos) (rE X.K (eBo (tN (tB ma)))) :=
  PE.mono (pe_not ha) fun σ H Q h => by
    obtain ⟨w, S, r, rfl, s, l, x, S', h, q⟩ := h
    obtain ⟨⟨b, S1⟩, h1, h⟩ := Option.map_eq_some_iff.mp h
    cases h
    obtain ⟨⟨c, S2⟩, h2, h⟩ := Option.map_eq_some_iff.mp h1
    cases h
    exact ⟨w, S, r, rfl, s, l, _, _, tB_some h2, fun w' v e' s' rv => ⟨c, rv, q w' _ e' s' rfl⟩⟩
/-- and of values: the first one is a bool -/
def eAn (ma mb : EM RV) : EM RV := fun r S => (tB ma r S).bind fun p => if p.1 = true then mb r p.2 else some (.v (.bl false), p.2)
def eOr (ma mb : EM RV) : EM RV := fun r S => (tB ma r S).bind fun p => if p.1 = true then some (.v (.bl true), p.2) else mb r p.2
theorem de_one {op} {m : EM RV} (h : PE X a (rE X.K m)) : PE X (.BoolOp op [a] pos) (rE X.K m) := pe_one h
theorem de_and (ha : PE X a (rE X.K ma)) (hb : PE X (.BoolOp .And (b :: rest) pos) (rE X.K mb)) : PE X (.BoolOp .And (a :: b :: rest) pos) (rE X.K (eAn ma mb)) :=
  PE.mono (pe_and ha hb) fun σ H Q h => by
    obtain ⟨w, S, r, rfl, s, l, x, S', h, q⟩ := h
    obtain ⟨⟨c, S1⟩, h1, h⟩ := Option.bind_eq_some_iff.mp h
    refine ⟨w, S, r, rfl, s, l, _, S1, tB_some h1, fun w1 v e1 s1 rv => ⟨c, rv, ?_⟩⟩
    cases c with
    | true => exact ⟨w1, S1, r, rfl, s1, l.ext s e1, x, S', h, fun w' v' e' s' r' => q w' v' (e1.trans e') s' r'⟩
    | false =>
      cases h
      exact q w1 _ e1 s1 rfl
theorem de_or (ha : PE X a (rE X.K ma)) (hb : PE X (.BoolOp .Or (b :: rest) pos) (rE X.K mb)) : PE X (.BoolOp .Or (a :: b :: rest) pos) (rE X.K (eOr ma mb)) :=
  PE.mono (pe_or ha hb) fun σ H Q h => by
    obtain ⟨w, S, r, rfl, s, l, x, S', h, q⟩ := h
    obtain ⟨⟨c, S1⟩, h1, h⟩ := Option.bind_eq_some_iff.mp h
    refine ⟨w, S, r, rfl, s, l, _, S1, tB_some h1, fun w1 v e1 s1 rv => ⟨c, rv, ?_⟩⟩
    cases c with
    | false => exact ⟨w1, S1, r, rfl, s1, l.ext s e1, x, S', h, fun w' v' e' s' r' => q w' v' (e1.trans e') s' r'⟩
    | true =>
      cases h
      exact q w1 _ e1 s1 rfl
def eIf (t : EM Bool) (ma mb : EM RV) : EM RV := fun r S => (t r S).bind fun p => if p.1 = true then ma r p.2 else mb r p.2
theorem de_if (hc : PT X c (rT X.K ta)) (ha : PE X a (rE X.K ma)) (hb : PE X b (rE X.K mb)) : PE X (.IfExp c a b pos) (rE X.K (eIf ta ma mb)) :=
  PE.mono (pe_ifExp hc ha hb) fun σ H Q h => by
    obtain ⟨w, S, r, rfl, s, l, x, S', h, q⟩ := h
    obtain ⟨⟨c, S1⟩, h1, h⟩ := Option.bind_eq_some_iff.mp h
    refine ⟨w, S, r, rfl, s, l, c, S1, h1, fun w1 e1 s1 => ?_⟩
    cases c with
    | true => exact ⟨w1, S1, r, rfl, s1, l.ext s e1, x, S', h, fun w' v' e' s' r' => q w' v' (e1.trans e') s' r'⟩
    | false => exact ⟨w1, S1, r, rfl, s1, l.ext s e1, x, S', h, fun w' v' e' s' r' => q w' v' (e1.trans e') s' r'⟩

/-! ### arguments, displays -/
def aNil : EM (List RV) := fun _ S => some ([], S)
def aCons (m : EM RV) (ms : EM (List RV)) : EM (List RV) := fun r S => (m r S).bind fun p => (ms r p.2).map fun q => (p.1 :: q.1, q.2)
variable {ms : EM (List RV)}
theorem da_nil : PA X [] (rA X.K aNil) := PA.mono pa_nil fun σ H Q h => by
  obtain ⟨w, S, r, rfl, s, l, xs, S', h, q⟩ := h
  cases h
  exact q w [] (Ext.refl w) s rfl
theorem da_cons (ha : PE X e (rE X.K ma)) (hr : PA X es (rA X.K ms)) (hs : starEach (e :: es) X.env = (false, eval e X.env) :: starEach es X.env) : PA X (e :: es) (rA X.K (aCons ma ms)) :=
  PA.mono (pa_cons ha hr hs) fun σ H Q h => by
    obtain ⟨w, S, r, rfl, s, l, xs, S', h, q⟩ := h
    obtain ⟨⟨x, S1⟩, h1, h⟩ := Option.bind_eq_some_iff.mp h
    obtain ⟨⟨ys, S2⟩, h2, h⟩ := Option.map_eq_some_iff.mp h
    cases h
    exact ⟨w, S, r, rfl, s, l, x, S1, h1, fun w1 v e1 s1 rv => ⟨w1, S1, r, rfl, s1, l.ext s e1, ys, _, h2, fun w2 vs e2 s2 rs => q w2 (v :: vs) (e1.trans e2) s2 ⟨v, vs, rfl, RR.ext s1 e2 rv, rs⟩⟩⟩
def allV : List RV → Option (List PV)
  | [] => some []
  | .v x :: r => (allV r).map (x :: ·)
  | .ref _ :: _ => none
theorem allV_rep {K : PySem.W.Frag} {w : VW} : ∀ {xs : List RV} {ys : List PV} {vs : List V}, allV xs = some ys → RRL K w xs vs → RepL K w ys vs
  | [], _, _, h, r => by
    cases h
    exact r
  | .v x :: xs, _, _, h, r => by
    obtain ⟨zs, h1, rfl⟩ := Option.map_eq_some_iff.mp h
    obtain ⟨v, r', rfl, a, b⟩ := r
    unfold RepL
    exact ⟨v, r', rfl, a, allV_rep h1 b⟩
  | .ref _ :: _, _, _, h, _ => by cases h
/-- a new tuple, a new list that stays as it is, a new list of the store -/
theorem mk_tup {K : PySem.W.Frag} {w : VW} {S : Sto} {p : Addr} {xs : List PV} {vs : List V} (s : StR K w S) (hp : w.H p = none) (r : RepL K w xs vs) :
    ∃ w', w'.H = upd w.H p (.tup vs) ∧ Ext w w' ∧ StR K w' S ∧ Rep K w' (.tup xs) (.ref p) := by
  have e := Ext.new (w := w) (u := .tup vs) (fr := false) (st := false) hp
  refine ⟨_, rfl, e, s.new hp, ?_⟩
  unfold Rep
  exact ⟨p, vs, rfl, upd_same, RepL.ext s e _ _ r⟩
theorem mk_lst {K : PySem.W.Frag} {w : VW} {S : Sto} {p : Addr} {xs : List PV} {vs : List V} (s : StR K w S) (hp : w.H p = none) (r : RepL K w xs vs) :
    ∃ w', w'.H = upd w.H p (.lst vs) ∧ Ext w w' ∧ StR K w' S ∧ Rep K w' (.lst xs) (.ref p) := by
  have e := Ext.new (w := w) (u := .lst vs) (fr := true) (st := false) hp
  refine ⟨_, rfl, e, s.new hp, ?_⟩
  unfold Rep
  exact ⟨p, vs, rfl, .inr ⟨rfl, rfl⟩, upd_same, RepL.ext s e _ _ r⟩
theorem mk_ref {K : PySem.W.Frag} {w : VW} {S : Sto} {p : Addr} {u : HO} {o : SO} (s : StR K w S) (hp : w.H p = none) (r : ObjR K w o u) :
    ∃ w', w'.H = upd w.H p u ∧ Ext w w' ∧ StR K w' (S ++ [o]) ∧ RR K w' (.ref S.length) (.ref p) := by
  have e := Ext.new (w := w) (u := u) (fr := false) (st := true) hp
  refine ⟨_, rfl, e, s.push hp (ObjR.ext s e r), p, ?_, rfl⟩
  show (w.th ++ [p])[S.length]? = some p
  rw [← s.len]
  simp
def smallL (n : Nat) : Bool := decide (n ≤ 1000000)
theorem smallL_le {n : Nat} (h : smallL n = true) : n ≤ sizeLine := Nat.le_trans (of_decide_eq_true h) (by rw [sizeLine_eq]; decide)
theorem smallL_lt {n : Nat} (h : smallL n = true) : n < sizeLine := Nat.lt_of_le_of_lt (of_decide_eq_true h) (by rw [sizeLine_eq]; decide)
def eTup (ms : EM (List RV)) : EM RV := fun r S => (ms r S).bind fun p => (allV p.1).bind fun xs => if smallL xs.length = true then some (.v (.tup xs), p.2) else none
def eLst (ms : EM (List RV)) : EM RV := fun r S => (ms r S).bind fun p => (allV p.1).bind fun xs => if smallL xs.length = true then some (.v (.lst xs), p.2) else none
def eLstM (ms : EM (List RV)) : EM RV := fun r S => (ms r S).bind fun p => (allV p.1).bind fun xs => if smallL xs.length = true then some (.ref p.2.length, p.2 ++ [.lst xs]) else none
theorem de_tup {k} (h : PA X es (rA X.K ms)) : PE X (.Tuple es k pos) (rE X.K (eTup ms)) :=
  PE.mono (pe_tup h) fun σ H Q h => by
    obtain ⟨w, S, r, rfl, s, l, x, S', h, q⟩ := h
    obtain ⟨⟨xs, S1⟩, h1, h⟩ := Option.bind_eq_some_iff.mp h
    obtain ⟨ys, h2, h⟩ := Option.bind_eq_some_iff.mp h
    split at h
    · rename_i hz
      cases h
      refine ⟨w, S, r, rfl, s, l, xs, _, h1, fun w1 vs e1 s1 rv => ?_⟩
      have rr := allV_rep h2 rv
      refine ⟨by rw [← rr.length]; exact smallL_le hz, fun p hp => ?_⟩
      obtain ⟨w2, hH, e2, s2, r2⟩ := mk_tup s1 hp rr
      rw [← hH]
      exact q w2 _ (e1.trans e2) s2 r2
    · cases h
theorem de_lst (h : PA X es (rA X.K ms)) : PE X (.List es pos) (rE X.K (eLst ms)) :=
  PE.mono (pe_lst h) fun σ H Q h => by
    obtain ⟨w, S, r, rfl, s, l, x, S', h, q⟩ := h
    obtain ⟨⟨xs, S1⟩, h1, h⟩ := Option.bind_eq_some_iff.mp h
    obtain ⟨ys, h2, h⟩ := Option.bind_eq_some_iff.mp h
    split at h
    · rename_i hz
      cases h
      refine ⟨w, S, r, rfl, s, l, xs, _, h1, fun w1 vs e1 s1 rv => ?_⟩
      have rr := allV_rep h2 rv
      refine ⟨by rw [← rr.length]; exact smallL_le hz, fun p hp => ?_⟩
      obtain ⟨w2, hH, e2, s2, r2⟩ := mk_lst s1 hp rr
      rw [← hH]
      exact q w2 _ (e1.trans e2) s2 r2
    · cases h
theorem de_lstM (h : PA X es (rA X.K ms)) : PE X (.List es pos) (rE X.K (eLstM ms)) :=
  PE.mono (pe_lst h) fun σ H Q h => by
    obtain ⟨w, S, r, rfl, s, l, x, S', h, q⟩ := h
    obtain ⟨⟨xs, S1⟩, h1, h⟩ := Option.bind_eq_some_iff.mp h
    obtain ⟨ys, h2, h⟩ := Option.bind_eq_some_iff.mp h
    split at h
    · rename_i hz
      cases h
      refine ⟨w, S, r, rfl, s, l, xs, S1, h1, fun w1 vs e1 s1 rv => ?_⟩
      have rr := allV_rep h2 rv
      refine ⟨by rw [← rr.length]; exact smallL_le hz, fun p hp => ?_⟩
      obtain ⟨w2, hH, e2, s2, r2⟩ := mk_ref (o := .lst ys) s1 hp ⟨vs, rfl, rr⟩
      rw [← hH]
      exact q w2 _ (e1.trans e2) s2 r2
    · cases h
/-- a new dict without keys; t: its keys are to be tuples -/
def eDct (t : Bool) : EM RV := fun _ S => some (.v (.dct t [] []), S)
def eDctM (t : Bool) : EM RV := fun _ S => some (.ref S.length, S ++ [.dct t [] []])
theorem DRep.nil {K : PySem.W.Frag} {w : VW} (t : Bool) : DRep (RepL K w) t [] [] (if t then .dT [] else .dK []) := by
  cases t with
  | false => exact .inl ⟨rfl, [], rfl, rfl, by unfold RepL; rfl⟩
  | true => exact .inr ⟨rfl, [], rfl, rfl, by unfold RepL; rfl⟩
theorem pe_dnew (t : Bool) : PE X (.Dict [] [] pos) (fun _ H Q => ∀ p, H p = none → Q (.ref p) (upd H p (if t then .dT [] else .dK []))) := by
  cases t with
  | false => exact pe_dnewK
  | true => exact pe_dnewT
theorem de_dctM {t : Bool} : PE X (.Dict [] [] pos) (rE X.K (eDctM t)) :=
  PE.mono (pe_dnew t) fun σ H Q h => by
    obtain ⟨w, S, r, rfl, s, l, x, S', h, q⟩ := h
    cases h
    intro p hp
    obtain ⟨w2, hH, e2, s2, r2⟩ := mk_ref (K := X.K) (o := .dct t [] []) s hp (DRep.nil t)
    rw [← hH]
    exact q w2 _ e2 s2 r2
theorem de_dct {t : Bool} : PE X (.Dict [] [] pos) (rE X.K (eDct t)) :=
  PE.mono (pe_dnew t) fun σ H Q h => by
    obtain ⟨w, S, r, rfl, s, l, x, S', h, q⟩ := h
    cases h
    intro p hp
    have e := Ext.new (w := w) (u := if t then .dT [] else .dK []) (fr := true) (st := false) hp
    refine q _ _ e (s.new hp) ?_
    show Rep X.K _ _ _
    unfold Rep
    exact ⟨p, _, rfl, .inr ⟨rfl, rfl⟩, .inl upd_same, DRep.nil t⟩
end
end Dn

/-! Dn 3: statements, targets, loops. -/
namespace Dn
open PySem PySem.Spec PyProof.Rows L2

theorem LoR.set {K : PySem.W.Frag} {w : VW} {r : Lo} {σ : L2.St} {i : Nat} {x : RV} {v : V} (h : LoR K w r σ) (g : RR K w x v) : LoR K w (r.set i (some x)) (σ.set i (some v)) := by
  refine ⟨by rw [List.length_set, List.length_set]; exact h.1, fun j y e => ?_⟩
  by_cases q : i = j
  · subst q
    by_cases hl : i < r.length
    · rw [List.getElem?_set_self hl] at e
      cases e
      exact ⟨v, by rw [List.getElem?_set_self (by rw [h.1]; exact hl)], g⟩
    · rw [List.getElem?_eq_none (by rw [List.length_set]; omega)] at e
      cases e
  · rw [List.getElem?_set_ne q] at e
    obtain ⟨u, a, b⟩ := h.2 j y e
    exact ⟨u, by rw [List.getElem?_set_ne q]; exact a, b⟩
/-- an object of the store is written -/
theorem StR.write {K : PySem.W.Frag} {w : VW} {S : Sto} {n : Nat} {a : Addr} {o o' : SO} {u : HO} (s : StR K w S) (hn : w.th[n]? = some a) (ho : S[n]? = some o) (r : ObjR K w o' u) :
    ∃ w', w'.H = upd w.H a u ∧ Ext w w' ∧ StR K w' (S.set n o') := by
  have ma : a ∈ w.th := List.mem_of_getElem? hn
  have e : Ext w ⟨w.F, w.th, upd w.H a u⟩ := by
    refine ⟨fun _ h => h, fun b hb _ => upd_ne fun z => hb (z ▸ ma), fun b hb => ?_, ⟨[], by simp, by simp⟩, fun _ h => .inl h⟩
    show upd w.H a u b ≠ none
    by_cases z : b = a
    · rw [z, upd_same]
      simp
    · rw [upd_ne z]
      exact hb
  refine ⟨⟨w.F, w.th, upd w.H a u⟩, rfl, e, ⟨by rw [List.length_set]; exact s.len, s.nd, s.nf, fun b hb => e.h b (s.fz b hb), fun m b p h1 h2 => ?_⟩⟩
  by_cases q : n = m
  · subst q
    have eb : a = b := Option.some.inj (hn.symm.trans h1)
    subst eb
    rw [List.getElem?_set_self (List.getElem?_eq_some_iff.mp ho).1] at h2
    cases h2
    exact ⟨u, upd_same, ObjR.ext s e r⟩
  · rw [List.getElem?_set_ne q] at h2
    obtain ⟨v, hv, hr⟩ := s.ob m b p h1 h2
    refine ⟨v, ?_, ObjR.ext s e hr⟩
    show upd w.H a u b = some v
    rw [upd_ne fun z => ?_]
    · exact hv
    · subst z
      obtain ⟨l1, g1⟩ := List.getElem?_eq_some_iff.mp hn
      obtain ⟨l2, g2⟩ := List.getElem?_eq_some_iff.mp h1
      exact q ((List.getElem_inj s.nd).mp (g1.trans g2.symm))

section
variable {X : Cx} {a b c e tg : Expr} {es : List Expr} {ma mb mc : EM RV} {pos pos' : Pos}
/-! ### blocks -/
def sNil : SM := fun r S => some (.nx r, S)
def sCons (m n : SM) : SM := fun r S => (m r S).bind fun p => match p.1 with
  | .nx r' => n r' p.2
  | o => some (o, p.2)
def sNo : SM := fun _ _ => none
variable {st : Stmt} {rest : List Stmt} {m n : SM}
theorem ds_no : PS X st (rS X.K sNo) := ⟨fun _ _ _ _ _ _ h => by obtain ⟨_, _, _, _, _, _, _, _, h, _⟩ := h; cases h⟩
theorem dss_no {sts : List Stmt} : PSs X sts (rS X.K sNo) := ⟨fun _ _ _ _ _ _ h => by obtain ⟨_, _, _, _, _, _, _, _, h, _⟩ := h; cases h⟩
theorem dss_nil : PSs X [] (rS X.K sNil) := PSs.mono pss_nil fun D σ H h => by
  obtain ⟨w, S, r, rfl, s, l, o, S', h, q⟩ := h
  cases h
  exact q w σ (Ext.refl w) s l
theorem dss_cons (h1 : PS X st (rS X.K m)) (h2 : PSs X rest (rS X.K n)) : PSs X (st :: rest) (rS X.K (sCons m n)) :=
  PSs.mono (pss_cons h1 h2) fun D σ H h => by
    obtain ⟨w, S, r, rfl, s, l, o, S', h, q⟩ := h
    obtain ⟨⟨o1, S1⟩, g1, h⟩ := Option.bind_eq_some_iff.mp h
    refine ⟨w, S, r, rfl, s, l, o1, S1, g1, ?_⟩
    cases o1 with
    | nx r' => exact fun w' σ' e' s' l' => ⟨w', S1, r', rfl, s', l', o, S', h, q.ext e'⟩
    | rt x =>
      cases h
      exact q
    | bk r' =>
      cases h
      exact q
    | ct r' =>
      cases h
      exact q
def sRet (m : EM RV) : SM := fun r S => (m r S).map fun p => (.rt (.one p.1), p.2)
theorem ds_ret (he : PE X e (rE X.K ma)) : PS X (.Return (some e) pos) (rS X.K (sRet ma)) :=
  PS.mono (ps_ret he) fun D σ H h => by
    obtain ⟨w, S, r, rfl, s, l, o, S', h, q⟩ := h
    obtain ⟨⟨x, S1⟩, g1, h⟩ := Option.map_eq_some_iff.mp h
    cases h
    exact ⟨w, S, r, rfl, s, l, x, _, g1, q⟩
/-- return (a, b, ..) -/
def sRetT (ms : EM (List RV)) : SM := fun r S => (ms r S).bind fun p => if smallL p.1.length = true then some (.rt (.many p.1), p.2) else none
theorem ds_retT {k} {ms : EM (List RV)} {tpos : Pos} (h : PA X es (rA X.K ms)) : PS X (.Return (some (.Tuple es k tpos)) pos) (rS X.K (sRetT ms)) :=
  PS.mono (ps_ret (pe_tup h)) fun D σ H h => by
    obtain ⟨w, S, r, rfl, s, l, o, S', h, q⟩ := h
    obtain ⟨⟨xs, S1⟩, h1, h⟩ := Option.bind_eq_some_iff.mp h
    split at h
    · rename_i hz
      cases h
      refine ⟨w, S, r, rfl, s, l, xs, _, h1, fun w1 vs e1 s1 rv => ?_⟩
      exact ⟨by rw [← rv.length]; exact smallL_le hz, fun p hp => q w1 vs p e1 s1 rv hp⟩
    · cases h
theorem ds_retN : PS X (.Return none pos) (rS X.K (sRet (eC .non))) :=
  PS.mono ps_retN fun D σ H h => by
    obtain ⟨w, S, r, rfl, s, l, o, S', h, q⟩ := h
    cases h
    exact q w .non (Ext.refl w) s rfl
def sDrop (m : EM RV) : SM := fun r S => (m r S).map fun p => (.nx r, p.2)
theorem ds_expr (he : PE X e (rE X.K ma)) (hs : swapsWith e none pos.line X.env = pure false) : PS X (.Expr e pos) (rS X.K (sDrop ma)) :=
  PS.mono (ps_expr he hs) fun D σ H h => by
    obtain ⟨w, S, r, rfl, s, l, o, S', h, q⟩ := h
    obtain ⟨⟨x, S1⟩, g1, h⟩ := Option.map_eq_some_iff.mp h
    cases h
    exact ⟨w, S, r, rfl, s, l, x, _, g1, fun w' v e' s' _ => q w' σ e' s' (l.ext s e')⟩
def sIf (t : EM Bool) (m n : SM) : SM := fun r S => (t r S).bind fun p => if p.1 = true then m r p.2 else n r p.2
theorem ds_if {ta : EM Bool} {as bs : List Stmt} (hc : PT X c (rT X.K ta)) (ha : PSs X as (rS X.K m)) (hb : PSs X bs (rS X.K n)) : PS X (.If c as bs pos) (rS X.K (sIf ta m n)) :=
  PS.mono (ps_if hc ha hb) fun D σ H h => by
    obtain ⟨w, S, r, rfl, s, l, o, S', h, q⟩ := h
    obtain ⟨⟨b, S1⟩, g1, h⟩ := Option.bind_eq_some_iff.mp h
    refine ⟨w, S, r, rfl, s, l, b, S1, g1, fun w1 e1 s1 => ?_⟩
    cases b with
    | true => exact ⟨w1, S1, r, rfl, s1, l.ext s e1, o, S', h, q.ext e1⟩
    | false => exact ⟨w1, S1, r, rfl, s1, l.ext s e1, o, S', h, q.ext e1⟩
theorem ds_pass : PS X (.Pass pos) (rS X.K sNil) := PS.mono ps_pass fun D σ H h => by
  obtain ⟨w, S, r, rfl, s, l, o, S', h, q⟩ := h
  cases h
  exact q w σ (Ext.refl w) s l

/-! ### targets -/
abbrev GM := RV → Lo → Sto → Option (Lo × Sto)
abbrev GsM := List PV → Lo → Sto → Option (Lo × Sto)
def rG (K : PySem.W.Frag) (g : GM) : TG := fun v σ H Q => ∃ w S r x, w.H = H ∧ StR K w S ∧ LoR K w r σ ∧ RR K w x v ∧ ∃ r' S', g x r S = some (r', S') ∧ ∀ w' σ', Ext w w' → StR K w' S' → LoR K w' r' σ' → Q σ' w'.H
def rGs (K : PySem.W.Frag) (g : GsM) : TGs := fun vs σ H Q => ∃ w S r xs, w.H = H ∧ StR K w S ∧ LoR K w r σ ∧ RepL K w xs vs ∧ ∃ r' S', g xs r S = some (r', S') ∧ ∀ w' σ', Ext w w' → StR K w' S' → LoR K w' r' σ' → Q σ' w'.H
theorem PG.mono {t t' : TG} (h : PG X tg t) (f : ∀ v σ H Q, t' v σ H Q → t v σ H Q) : PG X tg t' := ⟨fun pins s σ H v u Q I r q => h.run pins s σ H v u Q I r (f v σ H Q q)⟩
theorem PGs.mono {t t' : TGs} (h : PGs X es t) (f : ∀ v σ H Q, t' v σ H Q → t v σ H Q) : PGs X es t' := ⟨fun pins s σ H v u Q I r q => h.run pins s σ H v u Q I r (f v σ H Q q)⟩
def gNm (i : Nat) : GM := fun x r S => some (r.set i (some x), S)
def gNo : GM := fun _ _ _ => none
theorem dg_no : PG X tg (rG X.K gNo) := ⟨fun _ _ _ _ _ _ _ _ _ h => by obtain ⟨_, _, _, _, _, _, _, _, _, _, h, _⟩ := h; cases h⟩
theorem dg_name {i : Nat} {x : Str} (hN : X.N.Nodup) (hi : X.N[i]? = some x) (hx : Loc X.env.scope x) (hf : X.fn x = true ∨ X.env.scope.names.lookup x = some .local) : PG X (.Name x pos) (rG X.K (gNm i)) :=
  PG.mono (pg_name hN hi hx hf) fun v σ H Q h => by
    obtain ⟨w, S, r, x, rfl, s, l, rx, r', S', h, q⟩ := h
    cases h
    exact q w _ (Ext.refl w) s (l.set rx)
def gsNil : GsM := fun xs r S => match xs with
  | [] => some (r, S)
  | _ => none
def gsCons (g : GM) (gs : GsM) : GsM := fun xs r S => match xs with
  | [] => none
  | x :: xs => (g (.v x) r S).bind fun p => gs xs p.1 p.2
theorem dgs_nil : PGs X [] (rGs X.K gsNil) := PGs.mono pgs_nil fun vs σ H Q h => by
  obtain ⟨w, S, r, xs, rfl, s, l, rx, r', S', h, q⟩ := h
  cases xs with
  | nil =>
    cases h
    exact ⟨rx, q w σ (Ext.refl w) s l⟩
  | cons _ _ => cases h
theorem dgs_cons {g : GM} {gs : GsM} (h1 : PG X e (rG X.K g)) (h2 : PGs X es (rGs X.K gs)) (hs : (assignEach (e :: es) X.env).map (·.2) = assign e X.env :: (assignEach es X.env).map (·.2)) : PGs X (e :: es) (rGs X.K (gsCons g gs)) :=
  PGs.mono (pgs_cons h1 h2 hs) fun vs σ H Q h => by
    obtain ⟨w, S, r, xs, rfl, s, l, rx, r', S', h, q⟩ := h
    cases xs with
    | nil => cases h
    | cons x xs =>
      unfold RepL at rx
      obtain ⟨v, vr, rfl, rv, rr⟩ := rx
      obtain ⟨⟨r1, S1⟩, g1, h⟩ := Option.bind_eq_some_iff.mp h
      refine ⟨v, vr, rfl, w, S, r, .v x, rfl, s, l, rv, r1, S1, g1, fun w1 σ1 e1 s1 l1 => ?_⟩
      exact ⟨w1, S1, r1, xs, rfl, s1, l1, RepL.ext s e1 _ _ rr, r', S', h, fun w' σ' e' s' l' => q w' σ' (e1.trans e') s' l'⟩
def gTp (n : Nat) (gs : GsM) : GM := fun x r S => match x with
  | .v (.tup xs) => if xs.length = n then gs xs r S else none
  | _ => none
theorem dg_tup {k n : Nat} {gs : GsM} (hc : X.calm = true) (h : PGs X es (rGs X.K gs)) (hn : (assignEach es X.env).length = n) (hst : (assignEach es X.env).findIdx? (·.1) = none) : PG X (.Tuple es k pos) (rG X.K (gTp n gs)) :=
  PG.mono (pg_tup hc h hn hst) fun v σ H Q h => by
    obtain ⟨w, S, r, x, rfl, s, l, rx, r', S', h, q⟩ := h
    unfold gTp at h
    split at h
    · rename_i xs
      split at h
      · rename_i hl
        unfold RR Rep at rx
        obtain ⟨a, vs, e1, ha, rr⟩ := rx
        exact ⟨a, vs, e1, SqT.of ha, by rw [← rr.length]; exact hl, w, S, r, xs, rfl, s, l, rr, r', S', h, q⟩
      · cases h
    · cases h
/-- target = value -/
def sAsg (m : EM RV) (g : GM) : SM := fun r S => (m r S).bind fun p => (g p.1 r p.2).map fun q => (.nx q.1, q.2)
theorem asg_read {K : PySem.W.Frag} {g : GM} {D : Ends} {σ : L2.St} {H : Hp} (h : rS K (sAsg ma g) D σ H) : rE K ma σ H fun x H1 => rG K g x σ H1 D.nx := by
  obtain ⟨w, S, r, rfl, s, l, o, S', h, q⟩ := h
  obtain ⟨⟨x, S1⟩, g1, h⟩ := Option.bind_eq_some_iff.mp h
  obtain ⟨⟨r2, S2⟩, g2, h⟩ := Option.map_eq_some_iff.mp h
  cases h
  exact ⟨w, S, r, rfl, s, l, x, S1, g1, fun w1 v e1 s1 rv => ⟨w1, S1, r, x, rfl, s1, l.ext s e1, rv, r2, _, g2, fun w' σ' e' => q w' σ' (e1.trans e')⟩⟩
theorem ds_asg {g : GM} (he : PE X e (rE X.K ma)) (hg : PG X tg (rG X.K g)) (hs : swapsWithSole [tg] e pos.line X.env = pure false) (hw : swappedStores [tg] e X.env = pure none)
    (h1 : (assignEach [tg] X.env).map (·.2) = [assign tg X.env]) : PS X (.Assign [tg] e pos) (rS X.K (sAsg ma g)) :=
  PS.mono (ps_asg he hg hs hw h1) fun D σ H h => asg_read h
theorem ds_set {i : Nat} {x : Str} (hN : X.N.Nodup) (hi : X.N[i]? = some x) (hx : Loc X.env.scope x) (he : PE X e (rE X.K ma)) (hs : swapsWith e (some (.Name x pos')) pos.line X.env = pure false) (hf : X.fn x = true ∨ X.env.scope.names.lookup x = some .local) :
    PS X (.Assign [.Name x pos'] e pos) (rS X.K (sAsg ma (gNm i))) :=
  PS.mono (ps_set hN hi hx he hs hf) fun D σ H h => by
    obtain ⟨w, S, r, rfl, s, l, o, S', h, q⟩ := h
    obtain ⟨⟨x, S1⟩, g1, h⟩ := Option.bind_eq_some_iff.mp h
    obtain ⟨⟨r2, S2⟩, g2, h⟩ := Option.map_eq_some_iff.mp h
    cases g2
    cases h
    exact ⟨w, S, r, rfl, s, l, x, _, g1, fun w1 v e1 s1 rv => q w1 _ e1 s1 ((l.ext s e1).set rv)⟩
/-- o[i] = v by values -/
abbrev WM := RV → RV → RV → Sto → Option Sto
def rW (K : PySem.W.Frag) (f : WM) : TSet := fun o i v H Q => ∃ w S xo xi xv, w.H = H ∧ StR K w S ∧ RR K w xo o ∧ RR K w xi i ∧ RR K w xv v ∧ ∃ S', f xo xi xv S = some S' ∧ ∀ w', Ext w w' → StR K w' S' → Q w'.H
def gSb (mo mi : EM RV) (f : WM) : GM := fun x r S => (mo r S).bind fun p => (mi r p.2).bind fun q => (f p.1 q.1 x q.2).map fun S' => (r, S')
theorem dg_sub {o i : Expr} {mo mi : EM RV} {f : WM} (ho : PE X o (rE X.K mo)) (hi : PE X i (rE X.K mi)) (hs : PSet X (rW X.K f))
    (ha : ∀ v, assign (.Subscript o i pos) X.env v = (do
      let ov ← holding [v] (eval o X.env)
      let iv ← holding [v, ov] (eval i X.env)
      standAt pos
      holding [v, ov, iv] (setItem ov iv v)
      release [v, ov, iv] [])) : PG X (.Subscript o i pos) (rG X.K (gSb mo mi f)) :=
  PG.mono (pg_sub ho hi hs ha) fun v σ H Q h => by
    obtain ⟨w, S, r, x, rfl, s, l, rx, r', S', h, q⟩ := h
    obtain ⟨⟨xo, S1⟩, g1, h⟩ := Option.bind_eq_some_iff.mp h
    obtain ⟨⟨xi, S2⟩, g2, h⟩ := Option.bind_eq_some_iff.mp h
    obtain ⟨S3, g3, h⟩ := Option.map_eq_some_iff.mp h
    cases h
    refine ⟨w, S, r, rfl, s, l, xo, S1, g1, fun w1 vo e1 s1 ro => ⟨w1, S1, r, rfl, s1, l.ext s e1, xi, S2, g2, fun w2 vi e2 s2 ri => ?_⟩⟩
    exact ⟨w2, S2, xo, xi, x, rfl, s2, RR.ext s1 e2 ro, ri, RR.ext s1 e2 (RR.ext s e1 rx), _, g3, fun w3 e3 s3 => q w3 σ ((e1.trans e2).trans e3) s3 (((l.ext s e1).ext s1 e2).ext s2 e3)⟩

/-! ### name op= e, o[i] op= e -/
def sAug (i : Nat) (m : EM RV) (g : PV → PV → Option PV) : SM := fun r S => match r[i]? with
  | some (some (.v x)) => (m r S).bind fun p => (peek p.2 p.1).bind fun y => (g x y).map fun z => (.nx (r.set i (some (.v z))), p.2)
  | _ => none
theorem ds_aug {i : Nat} {x : Str} {op : Operator} {g : PV → PV → Option PV} (hN : X.N.Nodup) (hi : X.N[i]? = some x) (hx : Loc X.env.scope x) (he : PE X e (rE X.K ma)) (ho : PIp X op (r2 X.K g)) (hf : X.fn x = true ∨ X.env.scope.names.lookup x = some .local) :
    PS X (.AugAssign (.Name x pos') op e pos) (rS X.K (sAug i ma g)) :=
  PS.mono (ps_aug hN hi hx he ho hf) fun D σ H h => by
    obtain ⟨w, S, r, rfl, s, l, o, S', h, q⟩ := h
    unfold sAug at h
    split at h
    · rename_i y hy
      obtain ⟨v, hv, rv⟩ := l.2 i _ hy
      obtain ⟨⟨x1, S1⟩, g1, h⟩ := Option.bind_eq_some_iff.mp h
      obtain ⟨py, g2, h⟩ := Option.bind_eq_some_iff.mp h
      obtain ⟨z, g3, h⟩ := Option.map_eq_some_iff.mp h
      cases h
      refine ⟨v, hv, w, S, r, rfl, s, l, x1, _, g1, fun w1 u e1 s1 ru => ?_⟩
      exact ⟨w1, _, y, py, z, rfl, s1, Rep.toW (RR.ext s e1 rv), ru.toW s1 g2, g3, fun w2 t e2 s2 rt => q w2 _ (e1.trans e2) s2 (((l.ext s e1).ext s1 e2).set rt)⟩
    · cases h
/-- o[i] by values -/
abbrev IM := RV → RV → Sto → Option RV
def rI2 (K : PySem.W.Frag) (f : IM) : V → V → Hp → VK → Prop := fun o i H Q => ∃ w S xo xi, w.H = H ∧ StR K w S ∧ RR K w xo o ∧ RR K w xi i ∧ ∃ z, f xo xi S = some z ∧ ∀ w' v, Ext w w' → StR K w' S → RR K w' z v → Q v w'.H
def sAugS (mo mi m : EM RV) (gi : IM) (g : PV → PV → Option PV) (f : WM) : SM := fun r S => (mo r S).bind fun p => (mi r p.2).bind fun q => (gi p.1 q.1 q.2).bind fun x => (m r q.2).bind fun t =>
  (peek t.2 x).bind fun px => (peek t.2 t.1).bind fun py => (g px py).bind fun z => (f p.1 q.1 (.v z) t.2).map fun S' => (.nx r, S')
theorem ds_augS {o i : Expr} {mo mi : EM RV} {gi : IM} {g : PV → PV → Option PV} {f : WM} {op : Operator} {tpos : Pos} (ho : PE X o (rE X.K mo)) (hi : PE X i (rE X.K mi)) (hg : PGet X (rI2 X.K gi)) (he : PE X e (rE X.K ma)) (hp : PIp X op (r2 X.K g)) (hs : PSet X (rW X.K f))
    (ha : ∀ ov iv new, augStore i ov iv new = (do holding [new, ov, iv] (setItem ov iv new); release [new, ov, iv] []; pure .next)) : PS X (.AugAssign (.Subscript o i tpos) op e pos) (rS X.K (sAugS mo mi ma gi g f)) :=
  PS.mono (ps_augS ho hi hg he hp hs ha) fun D σ H h => by
    obtain ⟨w, S, r, rfl, s, l, out, S', h, q⟩ := h
    obtain ⟨⟨xo, S1⟩, g1, h⟩ := Option.bind_eq_some_iff.mp h
    obtain ⟨⟨xi, S2⟩, g2, h⟩ := Option.bind_eq_some_iff.mp h
    obtain ⟨x, g3, h⟩ := Option.bind_eq_some_iff.mp h
    obtain ⟨⟨xv, S4⟩, g4, h⟩ := Option.bind_eq_some_iff.mp h
    obtain ⟨px, g5, h⟩ := Option.bind_eq_some_iff.mp h
    obtain ⟨py, g6, h⟩ := Option.bind_eq_some_iff.mp h
    obtain ⟨z, g7, h⟩ := Option.bind_eq_some_iff.mp h
    obtain ⟨S5, g8, h⟩ := Option.map_eq_some_iff.mp h
    cases h
    refine ⟨w, S, r, rfl, s, l, xo, S1, g1, fun w1 vo e1 s1 ro => ⟨w1, S1, r, rfl, s1, l.ext s e1, xi, S2, g2, fun w2 vi e2 s2 ri => ?_⟩⟩
    have l2 := (l.ext s e1).ext s1 e2
    refine ⟨w2, S2, xo, xi, rfl, s2, RR.ext s1 e2 ro, ri, x, g3, fun w3 vx e3 s3 rx => ?_⟩
    refine ⟨w3, S2, r, rfl, s3, l2.ext s2 e3, xv, S4, g4, fun w4 vv e4 s4 rv => ?_⟩
    refine ⟨w4, S4, px, py, z, rfl, s4, (RR.ext s3 e4 rx).toW s4 g5, rv.toW s4 g6, g7, fun w5 vz e5 s5 rz => ?_⟩
    refine ⟨w5, S4, xo, xi, .v z, rfl, s5, RR.ext s4 e5 (RR.ext s3 e4 (RR.ext s2 e3 (RR.ext s1 e2 ro))), RR.ext s4 e5 (RR.ext s3 e4 (RR.ext s2 e3 ri)), rz, _, g8, fun w6 e6 s6 => ?_⟩
    exact q w6 σ (((((e1.trans e2).trans e3).trans e4).trans e5).trans e6) s6 (((((l2.ext s2 e3).ext s3 e4).ext s4 e5).ext s5 e6))
end
end Dn

/-! Dn 4: loops. -/
namespace Dn
open PySem PySem.Spec PyProof.Rows L2

/-! ### what is walked -/
/-- the items, and the object of the store that has to stay as it is -/
structure Itm where
  xs : List PV
  src : List (Nat × SO)
def Itm.ok (src : List (Nat × SO)) (S : Sto) : Prop := ∀ p ∈ src, S[p.1]? = some p.2
def ItOk (K : PySem.W.Frag) (w0 : VW) (J : It) (it : Itm) : Prop :=
  ∀ w S, Ext w0 w → StR K w S → Itm.ok it.src S → (∀ (i : Nat) x, it.xs[i]? = some x → J.go i w.H ∧ ∀ v H', J.yld i w.H v H' → ∃ w', w'.H = H' ∧ Ext w w' ∧ StR K w' S ∧ Rep K w' x v) ∧ J.stop it.xs.length w.H
def rI (K : PySem.W.Frag) (m : EM Itm) : TI := fun σ H R => ∃ w S r, w.H = H ∧ StR K w S ∧ LoR K w r σ ∧ ∃ it S', m r S = some (it, S') ∧ ∀ w' J, Ext w w' → StR K w' S' → ItOk K w' J it → R J w'.H

open Classical in
noncomputable def forL (src : List (Nat × SO)) (g : GM) (body : SM) : List PV → Lo → Sto → Option (Out × Sto)
  | [], r, S => if Itm.ok src S then some (.nx r, S) else none
  | x :: xs, r, S => if Itm.ok src S then (g (.v x) r S).bind fun p => (body p.1 p.2).bind fun q => match q.1 with
      | .nx r2 => forL src g body xs r2 q.2
      | .ct r2 => forL src g body xs r2 q.2
      | .bk r2 => some (.nx r2, q.2)
      | .rt v => some (.rt v, q.2)
    else none
noncomputable def sFor (mi : EM Itm) (g : GM) (body : SM) : SM := fun r S => (mi r S).bind fun p => forL p.1.src g body p.1.xs r p.2

section
variable {X : Cx} {tg iter c : Expr} {body : List Stmt} {mi : EM Itm} {g : GM} {mb : SM} {pos : Pos}
theorem PI.mono {t t' : TI} (h : PI X tg iter t) (f : ∀ σ H R, t' σ H R → t σ H R) : PI X tg iter t' := ⟨fun pins s σ H R I q => h.run pins s σ H R I (f σ H R q)⟩
def iNo : EM Itm := fun _ _ => none
theorem di_no : PI X tg iter (rI X.K iNo) := ⟨fun _ _ _ _ _ _ h => by obtain ⟨_, _, _, _, _, _, _, _, h, _⟩ := h; cases h⟩
theorem ds_for (hp : PassesOwn (model X.prog X.w) X.A X.env X.xe) (hc : X.calm = true) (hi : PI X tg iter (rI X.K mi)) (hg : PG X tg (rG X.K g)) (hb : PSs X body (rS X.K mb))
    (hs : ∀ x, foldedSetIterable iter X.env x = pure x) : PS X (.For tg iter body [] pos) (rS X.K (sFor mi g mb)) :=
  PS.mono (ps_for hp hc hi hg hb hs) fun D σ H h => by
    obtain ⟨w, S, r, rfl, s, l, o, S', h, q⟩ := h
    obtain ⟨⟨it, S1⟩, g1, h⟩ := Option.bind_eq_some_iff.mp h
    refine ⟨w, S, r, rfl, s, l, it, S1, g1, fun w0 J e0 s0 hJ => ?_⟩
    have q0 : OutW X.K w0 S' D o := q.ext e0
    clear q
    refine ⟨fun i m σ H => m = it.xs.length - i ∧ i ≤ it.xs.length ∧ ∃ w S r, w.H = H ∧ StR X.K w S ∧ LoR X.K w r σ ∧ Ext w0 w ∧ forL it.src g mb (it.xs.drop i) r S = some (o, S'), ⟨it.xs.length, by simp, Nat.zero_le _, w0, S1, r, rfl, s0, l.ext s e0, Ext.refl w0, h⟩, ?_⟩
    rintro i m σ H ⟨rfl, hi, w, S, r, rfl, s, l, e, h⟩
    by_cases hlt : i < it.xs.length
    · obtain ⟨x, hx⟩ : ∃ x, it.xs[i]? = some x := ⟨it.xs[i], List.getElem?_eq_getElem hlt⟩
      have hd : it.xs.drop i = x :: it.xs.drop (i + 1) := by
        obtain ⟨h1, h2⟩ := List.getElem?_eq_some_iff.mp hx
        rw [← h2]
        exact List.drop_eq_getElem_cons hlt
      rw [hd] at h
      unfold forL at h
      split at h
      · rename_i hok
        obtain ⟨⟨r1, S2⟩, g2, h⟩ := Option.bind_eq_some_iff.mp h
        obtain ⟨⟨o1, S3⟩, g3, h⟩ := Option.bind_eq_some_iff.mp h
        obtain ⟨go, yl⟩ := (hJ w S e s hok).1 i x hx
        refine .inr ⟨go, fun σ' H' => ∃ w S r, w.H = H' ∧ StR X.K w S ∧ LoR X.K w r σ' ∧ Ext w0 w ∧ forL it.src g mb (it.xs.drop (i + 1)) r S = some (o, S'), fun σ' H' hN => ⟨it.xs.length - (i + 1), by omega, rfl, hlt, hN⟩, fun v H' y => ?_⟩
        obtain ⟨w1, rfl, e1, s1, rv⟩ := yl v H' y
        refine ⟨w1, S, r, .v x, rfl, s1, l.ext s e1, rv, r1, S2, g2, fun w2 σ2 e2 s2 l2 => ?_⟩
        refine ⟨w2, S2, r1, rfl, s2, l2, o1, S3, g3, ?_⟩
        have e02 : Ext w0 w2 := (e.trans e1).trans e2
        cases o1 with
        | nx r2 => exact fun w3 σ3 e3 s3 l3 => ⟨w3, S3, r2, rfl, s3, l3, e02.trans e3, h⟩
        | ct r2 => exact fun w3 σ3 e3 s3 l3 => ⟨w3, S3, r2, rfl, s3, l3, e02.trans e3, h⟩
        | bk r2 =>
          cases h
          exact fun w3 σ3 e3 s3 l3 => q0 w3 σ3 (e02.trans e3) s3 l3
        | rt x2 =>
          cases h
          exact RetW.ext e02 q0
      · cases h
    · have ei : i = it.xs.length := by omega
      subst ei
      rw [List.drop_length] at h
      unfold forL at h
      split at h
      · rename_i hok
        cases h
        exact .inl ⟨(hJ w _ e s hok).2, q0 w σ e s l⟩
      · cases h

/-! ### while -/
def whileL (t : EM Bool) (body : SM) : Nat → Lo → Sto → Option (Out × Sto)
  | 0, _, _ => none
  | n + 1, r, S => (t r S).bind fun p => if p.1 = true then (body r p.2).bind fun q => match q.1 with
      | .nx r2 => whileL t body n r2 q.2
      | .ct r2 => whileL t body n r2 q.2
      | .bk r2 => some (.nx r2, q.2)
      | .rt v => some (.rt v, q.2)
    else some (.nx r, p.2)
open Classical in
noncomputable def sWhile (t : EM Bool) (body : SM) : SM := fun r S => if h : ∃ n, (whileL t body n r S).isSome = true then whileL t body (Classical.choose h) r S else none
theorem whileL_mono {t : EM Bool} {body : SM} : ∀ {n m : Nat} {r : Lo} {S : Sto} {x : Out × Sto}, whileL t body n r S = some x → n ≤ m → whileL t body m r S = some x
  | 0, _, _, _, _, h, _ => by cases h
  | n + 1, 0, _, _, _, _, hm => by omega
  | n + 1, m + 1, r, S, x, h, hm => by
    unfold whileL at h ⊢
    obtain ⟨⟨b, S1⟩, g1, h⟩ := Option.bind_eq_some_iff.mp h
    rw [g1]
    show (if b = true then _ else _) = _
    have h' : (if b = true then (body r S1).bind fun q => match q.1 with
      | .nx r2 => whileL t body n r2 q.2
      | .ct r2 => whileL t body n r2 q.2
      | .bk r2 => some (.nx r2, q.2)
      | .rt v => some (.rt v, q.2)
    else some (.nx r, S1)) = some x := h
    cases b with
    | false => exact h'
    | true =>
      rw [if_pos rfl] at h' ⊢
      obtain ⟨⟨o, S2⟩, g2, h2⟩ := Option.bind_eq_some_iff.mp h'
      show ((body r S1).bind _) = _
      rw [g2]
      show (match o with
      | .nx r2 => whileL t body m r2 S2
      | .ct r2 => whileL t body m r2 S2
      | .bk r2 => some (.nx r2, S2)
      | .rt v => some (.rt v, S2)) = _
      cases o with
      | nx r2 => exact whileL_mono (n := n) h2 (by omega)
      | ct r2 => exact whileL_mono (n := n) h2 (by omega)
      | bk r2 => exact h2
      | rt v => exact h2
theorem sWhile_of {t : EM Bool} {body : SM} {n : Nat} {r : Lo} {S : Sto} {x : Out × Sto} (h : whileL t body n r S = some x) : sWhile t body r S = some x := by
  have hx : ∃ n, (whileL t body n r S).isSome = true := ⟨n, by rw [h]; rfl⟩
  unfold sWhile
  rw [dif_pos hx]
  have hc := Classical.choose_spec hx
  obtain ⟨y, hy⟩ := Option.isSome_iff_exists.mp hc
  rw [hy]
  have a := whileL_mono h (Nat.le_max_left n (Classical.choose hx))
  have b := whileL_mono hy (Nat.le_max_right n (Classical.choose hx))
  rw [a] at b
  exact b.symm
theorem sWhile_some {t : EM Bool} {body : SM} {r : Lo} {S : Sto} {x : Out × Sto} (h : sWhile t body r S = some x) : ∃ n, whileL t body n r S = some x := by
  unfold sWhile at h
  split at h
  · exact ⟨_, h⟩
  · cases h
theorem ds_while {t : EM Bool} (hp : PassesOwn (model X.prog X.w) X.A X.env X.xe) (hc : PT X c (rT X.K t)) (hb : PSs X body (rS X.K mb)) : PS X (.While c body [] pos) (rS X.K (sWhile t mb)) :=
  PS.mono (ps_while hp hc hb) fun D σ H h => by
    obtain ⟨w, S, r, rfl, s, l, o, S', h, q⟩ := h
    obtain ⟨n, h⟩ := sWhile_some h
    refine ⟨fun m σ H => ∃ w S r, w.H = H ∧ StR X.K w S ∧ LoR X.K w r σ ∧ whileL t mb m r S = some (o, S') ∧ OutW X.K w S' D o, ⟨n, w, S, r, rfl, s, l, h, q⟩, ?_⟩
    clear h q s l
    rintro m σ H ⟨w, S, r, rfl, s, l, h, q⟩
    cases m with
    | zero => cases h
    | succ m =>
      unfold whileL at h
      obtain ⟨⟨b, S1⟩, g1, h⟩ := Option.bind_eq_some_iff.mp h
      refine ⟨w, S, r, rfl, s, l, b, S1, g1, fun w1 e1 s1 => ?_⟩
      have h' : (if b = true then (mb r S1).bind fun q => match q.1 with
        | .nx r2 => whileL t mb m r2 q.2
        | .ct r2 => whileL t mb m r2 q.2
        | .bk r2 => some (.nx r2, q.2)
        | .rt v => some (.rt v, q.2)
      else some (.nx r, S1)) = some (o, S') := h
      have q1 := q.ext e1
      have l1 := l.ext s e1
      cases b with
      | false =>
        rw [if_neg Bool.false_ne_true] at h'
        dsimp only
        rw [if_neg Bool.false_ne_true]
        cases h'
        exact q1 w1 σ (Ext.refl w1) s1 l1
      | true =>
        rw [if_pos rfl] at h'
        dsimp only
        rw [if_pos rfl]
        obtain ⟨⟨o1, S2⟩, g2, h2⟩ := Option.bind_eq_some_iff.mp h'
        refine ⟨fun σ' H' => ∃ w S r, w.H = H' ∧ StR X.K w S ∧ LoR X.K w r σ' ∧ whileL t mb m r S = some (o, S') ∧ OutW X.K w S' D o, fun σ' H' hN => ⟨m, Nat.lt_succ_self m, hN⟩, ?_⟩
        refine ⟨w1, S1, r, rfl, s1, l1, o1, S2, g2, ?_⟩
        cases o1 with
        | nx r2 => exact fun w3 σ3 e3 s3 l3 => ⟨w3, S2, r2, rfl, s3, l3, h2, q1.ext e3⟩
        | ct r2 => exact fun w3 σ3 e3 s3 l3 => ⟨w3, S2, r2, rfl, s3, l3, h2, q1.ext e3⟩
        | bk r2 =>
          cases h2
          exact q1
        | rt x2 =>
          cases h2
          exact q1
end
end Dn

/-! Dn 5: calls of the text's own defs. -/
namespace Dn
open PySem PySem.Spec PyProof.Rows L2

/-! ### a def's promise, where no repr is under way -/
structure FnG (P : Program) (wd : World) (K : PySem.W.Frag) (mg : Str → Option Value) (base : Heap) (k : Nat) (f : Addr) (fd : FuncData) (ps : List Str) (sp : Sp) : Prop where
  len : ∀ vs H Q E, sp vs H Q E → vs.length = ps.length
  run : ∀ (A : Around) (outer : List PySem.Env) (s : Shared) (H : Hp) (args : Args) (us : List Value) (vs : List V) (Q : VK) (E : XK), Room k A → A.guards = some [] → Env0 P wd K mg base A outer s H →
    BindsTo s fd args (ps.zip us) → Vals vs us → sp vs H Q E → codeAny (model P wd) A (.call (.ref f) args) (CR CX0 outer P wd H s Q E) s
section
variable {P : Program} {wd : World} {K : PySem.W.Frag} {mg : Str → Option Value} {base : Heap} {x qual : Str} {params : Arguments} {body : List Stmt} {scope : Scope} {kws : List (Str × V)} {f : Addr} {fd : FuncData} {N ps : List Str} {k : Nat} {sp : Sp}
theorem FnG.of (F : FunD K x qual params body scope [] kws f fd) (S : FnScope N ps scope) (len : ∀ vs H Q E, sp vs H Q E → vs.length = ps.length)
    (hbody : ∀ (cdv : Value) (A : Around) (outer : List PySem.Env) (s : Shared) (H : Hp) (vs : List V) (Q : VK) (E : XK), Room k (A.deeper (envOfC qual scope s.heap.objs.size f cdv)) → (A.deeper (envOfC qual scope s.heap.objs.size f cdv)).guards = some [] →
      sp vs H Q E → ∃ t, PSs (cxOf CX0 P wd K mg base N qual scope f cdv A outer s H E) body t ∧ t { nx := fun _ H' => Q .non H', rt := Q } (start N vs) H) :
    FnG P wd K mg base (k + 1) f fd ps sp := by
  obtain ⟨oc, od, dV, kV, doc, pm, an, cdv, ct, osl, e, lk, hcd, _, _⟩ := F.ex
  subst e
  refine ⟨len, fun A outer s H args us vs Q E hr hgd e0 hb r hsp => ?_⟩
  have inB : ∀ b o, base.get? b = some o → s.heap.get? b = some o := fun b o q => (e0.bs b o q).1
  have KX : K.In s.heap := e0.mod.kin.keeps inB
  have lim := e0.mod.nolimit.keeps inB
  have kinds : ∀ y ∈ ps.zip us, scope.names.lookup y.1 = some .local ∨ (scope.names.lookup y.1 = some .cell ∧ ((cellsFrom (s.heap.objs.size + 1) scope.names []).lookup y.1).isSome = true) := by
    intro y hy
    obtain ⟨n, v⟩ := y
    have q := S.par n (List.of_mem_zip hy).1
    rcases q with q | q
    · exact Or.inl q
    · exact Or.inr ⟨q, PySem.W.cellsFrom_some _ _ _ (Or.inl q)⟩
  refine codeAny_call_function hr.depth (KX _ _ lk) rfl S.co S.gen rfl (PySem.W.codeRec_of KX hcd) (hb _ _ _ _ ?_)
  refine wpAny_newFunctionEnv_cells S.kind kinds ?_
  intro env he s1 ic
  subst he
  refine ⟨lim.keeps ic.toInCall.keep, codeAny_func ?_⟩
  obtain ⟨t, ht, hq⟩ := hbody cdv A outer s H vs Q E (hr.deeper _) hgd hsp
  have I := inv_start (CX := CX0) (E := E) (cd := cdv) S hr.hd e0 (len _ _ _ _ hsp) r ic
  refine wpAny_mono (ht.run [] s1 _ H _ I hq) ?_ (fun e s' hs => hs)
  intro fl s' hs
  cases fl with
  | ret u =>
    obtain ⟨v, σ', H', J, rv, q⟩ := hs
    exact ⟨v, H', J.os, J.bare, J.base, J.hok, rv, q⟩
  | next =>
    obtain ⟨σ', H', J, q⟩ := hs
    exact ⟨V.non, H', J.os, J.bare, J.base, J.hok, rfl, q⟩
  | brk =>
    obtain ⟨_, _, _, q⟩ := hs
    exact (show False from q).elim
  | cont =>
    obtain ⟨_, _, _, q⟩ := hs
    exact (show False from q).elim
theorem FnG.mono {j : Nat} (F : FnG P wd K mg base j f fd ps sp) (h : j ≤ k) : FnG P wd K mg base k f fd ps sp :=
  ⟨F.len, fun A outer s H args us vs Q E hr => F.run A outer s H args us vs Q E (hr.mono h)⟩
end
section
variable {X : Cx} {k : Nat} {f : Addr} {fd : FuncData} {ps : List Str} {sp : Sp} {E : XK} {x : Str} {p pos : Pos} {e : Expr} {es : List Expr} {t : TA}
theorem run_G {pins : List (Addr × Obj)} {σ : L2.St} {H : Hp} {s : Shared} {Q : VK} {us : List Value} {vs : List V} (F : FnG X.prog X.w X.K X.mg X.base k f fd ps sp) (hr : Room k X.A) (hgd : X.A.guards = some []) (hb : Binds X.K fd ps [])
    (I : Inv X pins σ H s) (r : Vals vs us) (h : sp vs H Q E) : wpAny (model X.prog X.w) X.A (call (.ref f) us) (EP X pins σ Q) X.xe s := by
  have hl : (us ++ ([] : List Value)).length = ps.length := by
    rw [List.append_nil, ← r.length]
    exact F.len _ _ _ _ h
  have hbt := hb s us I.kIn hl
  rw [List.append_nil] at hbt
  refine wpAny_call (codeAny_mono (F.run X.A X.stack s H ⟨us, []⟩ us vs Q E hr hgd I.env0 hbt r h) ?_)
  intro rr s' hq
  match rr, hq with
  | .error e, hq => exact (show False from hq).elim
  | .ok (.ret u), hq => exact I.after hq
  | .ok .next, hq => exact (show False from hq).elim
  | .ok .brk, hq => exact (show False from hq).elim
  | .ok .cont, hq => exact (show False from hq).elim
theorem pe_callG (F : FnG X.prog X.w X.K X.mg X.base k f fd ps sp) (hr : Room k X.A) (hgd : X.A.guards = some []) (hg : Gl X x) (hm : X.mg x = some (.ref f)) (hk : PySem.W.keepIn X.K (.ref f) = true) (hb : Binds X.K fd ps [])
    (ha : PA X (e :: es) t) (hdb : (x == ("__debug__" : Str)) = false) (he : starEach (e :: es) X.env = (false, eval e X.env) :: starEach es X.env) (hpl : (backTo pos (starEach es X.env)).any (·.1) = false) :
    PE X (.Call (.Name x p) (e :: es) [] pos) (fun σ H Q => t σ H fun vs H1 => sp vs H1 Q fun _ _ _ => False) := by
  refine ⟨fun pins s σ H Q I h => wpAny_Call_Name_kw (ld_glob I hg hm ?_ hdb)⟩
  refine PySem.W.callWith_K (h₀ := X.base) I.ok.mod.kin hk ?_ he hpl
  refine thn (ha.run pos pins s σ H _ I h) ?_
  rintro us s1 ⟨vs, H1, I1, r, q⟩
  exact ⟨I1.kIn, run_G F hr hgd hb I1 r q⟩
theorem pe_callG0 (F : FnG X.prog X.w X.K X.mg X.base k f fd ps sp) (hr : Room k X.A) (hgd : X.A.guards = some []) (hg : Gl X x) (hm : X.mg x = some (.ref f)) (hk : PySem.W.keepIn X.K (.ref f) = true) (hb : Binds X.K fd ps [])
    (hdb : (x == ("__debug__" : Str)) = false) : PE X (.Call (.Name x p) [] [] pos) (fun σ H Q => sp [] H Q fun _ _ _ => False) := by
  refine ⟨fun pins s σ H Q I h => wpAny_Call_Name_kw (ld_glob I hg hm ?_ hdb)⟩
  exact PySem.W.callWith_K0 I.kIn hk (run_G (us := []) F hr hgd hb I .nil h)
end

/-! ### what a def does, as a function of the store -/
abbrev CM := List RV → Sto → Option (RV × Sto)
def spF (K : PySem.W.Frag) (n : Nat) (c : CM) : Sp := fun vs H Q _ => ∃ w S xs, w.H = H ∧ StR K w S ∧ RRL K w xs vs ∧ xs.length = n ∧ ∃ y S', c xs S = some (y, S') ∧ ∀ w' v, Ext w w' → StR K w' S' → RR K w' y v → Q v w'.H
def startL (n : Nat) (xs : List RV) : Lo := xs.map some ++ List.replicate (n - xs.length) none
/-- behind the return the store is cut back; what was made there is told as a value -/
def frz1 (n : Nat) (S : Sto) : RV → Option RV
  | .v x => some (.v x)
  | .ref m => if m < n then some (.ref m) else ((S[m]?).bind SO.pv).map RV.v
def frzP (n : Nat) (S : Sto) (x : RV) : Option PV := (frz1 n S x).bind fun y => match y with
  | .v x => some x
  | .ref _ => none
def frzL (n : Nat) (S : Sto) : List RV → Option (List PV)
  | [] => some []
  | x :: xs => (frzP n S x).bind fun y => (frzL n S xs).map (y :: ·)
def fin (keep : Bool) (n : Nat) (S : Sto) : Ret → Option (RV × Sto)
  | .one x => if keep = true then some (x, S) else if n ≤ S.length then (frz1 n S x).map fun y => (y, S.take n) else none
  | .many xs => if n ≤ S.length then (frzL n S xs).map fun ys => (.v (.tup ys), S.take n) else none
def fnSem (nN np : Nat) (keep : Bool) (mb : SM) : CM := fun xs S => if xs.length = np then (mb (startL nN xs) S).bind fun p => match p.1 with
  | .nx _ => fin keep S.length p.2 (.one (.v .non))
  | .rt x => fin keep S.length p.2 x
  | _ => none else none

theorem LoR.begin {K : PySem.W.Frag} {w : VW} {N : List Str} {xs : List RV} {vs : List V} (r : RRL K w xs vs) : LoR K w (startL N.length xs) (L2.start N vs) := by
  have hl := r.length
  refine ⟨by simp [L2.start, startL, hl], fun i x e => ?_⟩
  have get : ∀ {xs : List RV} {vs : List V} {i : Nat} {x : RV}, RRL K w xs vs → xs[i]? = some x → ∃ v, vs[i]? = some v ∧ RR K w x v := by
    intro xs
    induction xs with
    | nil => intro vs i x _ e; simp at e
    | cons a as ih =>
      intro vs i x r e
      obtain ⟨v, r', rfl, h1, h2⟩ := r
      cases i with
      | zero =>
        simp at e
        subst e
        exact ⟨v, rfl, h1⟩
      | succ i =>
        obtain ⟨u, a, b⟩ := ih (i := i) h2 (by simpa using e)
        exact ⟨u, by simpa using a, b⟩
  unfold startL at e
  by_cases h : i < xs.length
  · rw [List.getElem?_append_left (by simpa using h), List.getElem?_map] at e
    obtain ⟨y, hy, ey⟩ := Option.map_eq_some_iff.mp e
    cases ey
    obtain ⟨v, hv, rv⟩ := get r hy
    refine ⟨v, ?_, rv⟩
    unfold L2.start
    rw [List.getElem?_append_left (by rw [List.length_map, ← hl]; exact h), List.getElem?_map, hv]
    rfl
  · rw [List.getElem?_append_right (by simpa using h), List.getElem?_replicate] at e
    split at e <;> cases e

/-- the world behind a return: the store's objects from n on are let go; A are frozen -/
def VW.cut (w : VW) (n : Nat) (A : Addr → Prop) : VW := ⟨fun a => w.F a ∨ A a, w.th.take n, w.H⟩
theorem cut_ok {K : PySem.W.Frag} {w w1 : VW} {S S1 : Sto} {A : Addr → Prop} (s : StR K w S) (e : Ext w w1) (s1 : StR K w1 S1) (hA : ∀ a, A a → ∃ m : Nat, S.length ≤ m ∧ w1.th[m]? = some a) :
    Ext w (w1.cut S.length A) ∧ StR K (w1.cut S.length A) (S1.take S.length) := by
  obtain ⟨nu, eth, hnu⟩ := e.p
  have ht : w1.th.take S.length = w.th := by
    rw [eth, ← s.len, List.take_left]
  have apart : ∀ {a : Addr} {m n : Nat}, w1.th[m]? = some a → w1.th[n]? = some a → m = n := by
    intro a m n h1 h2
    obtain ⟨l1, g1⟩ := List.getElem?_eq_some_iff.mp h1
    obtain ⟨l2, g2⟩ := List.getElem?_eq_some_iff.mp h2
    exact (List.getElem_inj s1.nd).mp (g1.trans g2.symm)
  refine ⟨⟨fun a h => .inl (e.f a h), e.k, e.h, ⟨[], ?_, by simp⟩, fun a f => ?_⟩, ⟨?_, ?_, ?_, ?_, ?_⟩⟩
  · show w1.th.take S.length = w.th ++ []
    rw [ht, List.append_nil]
  · rcases f with f | f
    · exact e.g a f
    · obtain ⟨m, hm, em⟩ := hA a f
      rw [eth, List.getElem?_append_right (by rw [s.len]; exact hm)] at em
      exact .inr (hnu a (List.mem_of_getElem? em))
  · show (w1.th.take S.length).length = (S1.take S.length).length
    rw [List.length_take, List.length_take, s1.len]
  · exact s1.nd.sublist (List.take_sublist _ _)
  · intro a m f
    have m' : a ∈ w1.th.take S.length := m
    rcases f with f | f
    · exact s1.nf a (List.mem_of_mem_take m') f
    · obtain ⟨j, hj, ej⟩ := hA a f
      obtain ⟨i, ei⟩ := List.getElem?_of_mem m'
      have li : i < S.length := by
        have := (List.getElem?_eq_some_iff.mp ei).1
        rw [List.length_take] at this
        omega
      rw [List.getElem?_take_of_lt li] at ei
      have := apart ei ej
      omega
  · intro a f
    rcases f with f | f
    · exact s1.fz a f
    · obtain ⟨j, hj, ej⟩ := hA a f
      have lj := (List.getElem?_eq_some_iff.mp ej).1
      rw [s1.len] at lj
      obtain ⟨u, hu, _⟩ := s1.ob j a S1[j] ej (List.getElem?_eq_getElem lj)
      show w1.H a ≠ none
      rw [hu]
      simp
  · intro n a o h1 h2
    have ln : n < S.length := by
      have := (List.getElem?_eq_some_iff.mp h1).1
      rw [show (w1.cut S.length A).th = w1.th.take S.length from rfl, List.length_take] at this
      omega
    rw [show (w1.cut S.length A).th = w1.th.take S.length from rfl, List.getElem?_take_of_lt ln] at h1
    rw [List.getElem?_take_of_lt ln] at h2
    obtain ⟨u, hu, ho⟩ := s1.ob n a o h1 h2
    refine ⟨u, hu, ?_⟩
    cases o with
    | lst xs =>
      obtain ⟨vs, e1, r⟩ := ho
      exact ⟨vs, e1, RepL.weak (w' := w1.cut S.length A) (fun _ h => Or.inl h) rfl _ _ r⟩
    | dct t ks vs => exact DRep.mono ho fun _ _ r => RepL.weak (w' := w1.cut S.length A) (fun _ h => Or.inl h) rfl _ _ r
    | ins C fs => exact ho

def VW.ends (w : VW) (n : Nat) : VW := w.cut n fun a => ∃ m : Nat, n ≤ m ∧ w.th[m]? = some a
theorem ends_ok {K : PySem.W.Frag} {w w1 : VW} {S S1 : Sto} (s : StR K w S) (e : Ext w w1) (s1 : StR K w1 S1) : Ext w (w1.ends S.length) ∧ StR K (w1.ends S.length) (S1.take S.length) := cut_ok s e s1 fun _ h => h
theorem frz1_ok {K : PySem.W.Frag} {w1 : VW} {S1 : Sto} {n : Nat} {x y : RV} {v : V} (s1 : StR K w1 S1) (h : frz1 n S1 x = some y) (r : RR K w1 x v) : RR K (w1.ends n) y v := by
  have wk : ∀ xs vs, RepL K w1 xs vs → RepL K (w1.ends n) xs vs := fun xs vs => RepL.weak (w := w1) (w' := w1.ends n) (fun _ h => Or.inl h) rfl xs vs
  cases x with
  | v x =>
    cases h
    exact Rep.weak (w' := w1.ends n) (fun _ h => Or.inl h) rfl x v r
  | ref m =>
    obtain ⟨a, h1, h2⟩ := r
    unfold frz1 at h
    dsimp only at h
    split at h
    · rename_i hm
      cases h
      exact ⟨a, by show (w1.th.take n)[m]? = some a; rw [List.getElem?_take_of_lt hm]; exact h1, h2⟩
    · rename_i hm
      obtain ⟨x, hx, rfl⟩ := Option.map_eq_some_iff.mp h
      obtain ⟨o, ho, h⟩ := Option.bind_eq_some_iff.mp hx
      obtain ⟨u, hu, hr⟩ := s1.ob m a o h1 ho
      have hF : (w1.ends n).F a := Or.inr ⟨m, by omega, h1⟩
      cases o with
      | lst xs =>
        cases h
        obtain ⟨vs, rfl, r⟩ := hr
        unfold RR Rep
        exact ⟨a, vs, h2, hF, hu, wk _ _ r⟩
      | dct t ks vs =>
        cases h
        unfold RR Rep
        exact ⟨a, u, h2, hF, .inl hu, DRep.mono hr wk⟩
      | ins C fs => cases h
theorem frzP_ok {K : PySem.W.Frag} {w1 : VW} {S1 : Sto} {n : Nat} {x : RV} {y : PV} {v : V} (s1 : StR K w1 S1) (h : frzP n S1 x = some y) (r : RR K w1 x v) : Rep K (w1.ends n) y v := by
  obtain ⟨z, h1, h⟩ := Option.bind_eq_some_iff.mp h
  have q := frz1_ok s1 h1 r
  cases z with
  | v z =>
    cases h
    exact q
  | ref m => cases h
theorem frzL_ok {K : PySem.W.Frag} {w1 : VW} {S1 : Sto} {n : Nat} (s1 : StR K w1 S1) : ∀ {xs : List RV} {ys : List PV} {vs : List V}, frzL n S1 xs = some ys → RRL K w1 xs vs → RepL K (w1.ends n) ys vs
  | [], _, _, h, r => by
    cases h
    exact r
  | x :: xs, ys, vs, h, r => by
    obtain ⟨y, h1, h⟩ := Option.bind_eq_some_iff.mp h
    obtain ⟨zs, h2, rfl⟩ := Option.map_eq_some_iff.mp h
    obtain ⟨v, r', rfl, a, b⟩ := r
    unfold RepL
    exact ⟨v, r', rfl, frzP_ok s1 h1 a, frzL_ok s1 h2 b⟩
theorem fin_one {K : PySem.W.Frag} {w w1 : VW} {S S1 S' : Sto} {keep : Bool} {x y : RV} {v : V} (s : StR K w S) (e : Ext w w1) (s1 : StR K w1 S1) (h : fin keep S.length S1 (.one x) = some (y, S')) (r : RR K w1 x v) :
    ∃ w2, w2.H = w1.H ∧ Ext w w2 ∧ StR K w2 S' ∧ RR K w2 y v := by
  unfold fin at h
  cases keep with
  | true =>
    cases h
    exact ⟨w1, rfl, e, s1, r⟩
  | false =>
    dsimp only at h
    rw [if_neg Bool.false_ne_true] at h
    split at h
    · obtain ⟨z, h1, h⟩ := Option.map_eq_some_iff.mp h
      cases h
      obtain ⟨e2, s2⟩ := ends_ok s e s1
      exact ⟨w1.ends S.length, rfl, e2, s2, frz1_ok s1 h1 r⟩
    · cases h
theorem fin_many {K : PySem.W.Frag} {w w1 : VW} {S S1 S' : Sto} {keep : Bool} {xs : List RV} {y : RV} {vs : List V} {p : Addr} (s : StR K w S) (e : Ext w w1) (s1 : StR K w1 S1) (h : fin keep S.length S1 (.many xs) = some (y, S')) (r : RRL K w1 xs vs)
    (hp : w1.H p = none) : ∃ w2, w2.H = upd w1.H p (.tup vs) ∧ Ext w w2 ∧ StR K w2 S' ∧ RR K w2 y (.ref p) := by
  unfold fin at h
  dsimp only at h
  split at h
  · obtain ⟨ys, h1, h⟩ := Option.map_eq_some_iff.mp h
    cases h
    obtain ⟨e2, s2⟩ := ends_ok s e s1
    obtain ⟨w3, h3, e3, s3, r3⟩ := mk_tup (p := p) s2 hp (frzL_ok s1 h1 r)
    exact ⟨w3, h3, e2.trans e3, s3, r3⟩
  · cases h
/-- THE RULE of a def: its body's reading gives its promise -/
theorem FnG.den {P : Program} {wd : World} {K : PySem.W.Frag} {mg : Str → Option Value} {base : Heap} {x qual : Str} {params : Arguments} {body : List Stmt} {scope : Scope} {f : Addr} {fd : FuncData} {N ps : List Str} {k : Nat} {mb : SM} (keep : Bool)
    (F : FunD K x qual params body scope [] [] f fd) (S : FnScope N ps scope)
    (hbody : ∀ (cdv : Value) (A : Around) (outer : List PySem.Env) (s : Shared) (H : Hp) (E : XK), Room k (A.deeper (envOfC qual scope s.heap.objs.size f cdv)) → (A.deeper (envOfC qual scope s.heap.objs.size f cdv)).guards = some [] →
      PSs (cxOf CX0 P wd K mg base N qual scope f cdv A outer s H E) body (rS K mb)) :
    FnG P wd K mg base (k + 1) f fd ps (spF K ps.length (fnSem N.length ps.length keep mb)) := by
  refine FnG.of F S (fun vs H Q E h => ?_) (fun cdv A outer s H vs Q E hr hg h => ⟨_, hbody cdv A outer s H E hr hg, ?_⟩)
  · obtain ⟨w, S, xs, rfl, s, r, hl, _⟩ := h
    rw [← r.length]
    exact hl
  · obtain ⟨w, S0, xs, rfl, s, r, hl, y, S', h, q⟩ := h
    unfold fnSem at h
    rw [if_pos hl] at h
    obtain ⟨⟨o, S1⟩, h1, h⟩ := Option.bind_eq_some_iff.mp h
    refine ⟨w, S0, _, rfl, s, LoR.begin r, o, S1, h1, ?_⟩
    cases o with
    | nx r' =>
      intro w1 σ' e1 s1 l1
      obtain ⟨w2, h2, e2, s2, r2⟩ := fin_one (v := V.non) s e1 s1 h rfl
      show Q .non w1.H
      rw [← h2]
      exact q w2 _ e2 s2 r2
    | rt x =>
      cases x with
      | one x =>
        intro w1 v e1 s1 rv
        obtain ⟨w2, h2, e2, s2, r2⟩ := fin_one s e1 s1 h rv
        show Q v w1.H
        rw [← h2]
        exact q w2 _ e2 s2 r2
      | many xs =>
        intro w1 vs p e1 s1 rv hp
        obtain ⟨w2, h2, e2, s2, r2⟩ := fin_many s e1 s1 h rv hp
        show Q (.ref p) (upd w1.H p (.tup vs))
        rw [← h2]
        exact q w2 _ e2 s2 r2
    | bk r' => cases h
    | ct r' => cases h
/-- f(e, ..) -/
def eCall (n : Nat) (c : CM) (ms : EM (List RV)) : EM RV := fun r S => (ms r S).bind fun p => if p.1.length = n then c p.1 p.2 else none
section
variable {X : Cx} {k : Nat} {f : Addr} {fd : FuncData} {ps : List Str} {x : Str} {p pos : Pos} {e : Expr} {es : List Expr} {ms : EM (List RV)} {c : CM}
theorem call_read {K : PySem.W.Frag} {n : Nat} {σ : L2.St} {H : Hp} {Q : VK} (h : rE K (eCall n c ms) σ H Q) : rA K ms σ H fun vs H1 => spF K n c vs H1 Q fun _ _ _ => False := by
  obtain ⟨w, S, r, rfl, s, l, y, S', h, q⟩ := h
  obtain ⟨⟨xs, S1⟩, h1, h⟩ := Option.bind_eq_some_iff.mp h
  split at h
  · rename_i hl
    exact ⟨w, S, r, rfl, s, l, xs, S1, h1, fun w1 vs e1 s1 rv => ⟨w1, S1, xs, rfl, s1, rv, hl, y, S', h, fun w2 v e2 s2 r2 => q w2 v (e1.trans e2) s2 r2⟩⟩
  · cases h
theorem de_call (F : FnG X.prog X.w X.K X.mg X.base k f fd ps (spF X.K ps.length c)) (hr : Room k X.A) (hgd : X.A.guards = some []) (hg : Gl X x) (hm : X.mg x = some (.ref f)) (hk : PySem.W.keepIn X.K (.ref f) = true) (hb : Binds X.K fd ps [])
    (ha : PA X (e :: es) (rA X.K ms)) (hdb : (x == ("__debug__" : Str)) = false) (he : starEach (e :: es) X.env = (false, eval e X.env) :: starEach es X.env) (hpl : (backTo pos (starEach es X.env)).any (·.1) = false) :
    PE X (.Call (.Name x p) (e :: es) [] pos) (rE X.K (eCall ps.length c ms)) := PE.mono (pe_callG F hr hgd hg hm hk hb ha hdb he hpl) fun _ _ _ h => call_read h
theorem de_call0 (F : FnG X.prog X.w X.K X.mg X.base k f fd ps (spF X.K ps.length c)) (hr : Room k X.A) (hgd : X.A.guards = some []) (hg : Gl X x) (hm : X.mg x = some (.ref f)) (hk : PySem.W.keepIn X.K (.ref f) = true) (hb : Binds X.K fd ps [])
    (hdb : (x == ("__debug__" : Str)) = false) : PE X (.Call (.Name x p) [] [] pos) (rE X.K (eCall ps.length c aNil)) := PE.mono (pe_callG0 F hr hgd hg hm hk hb hdb) fun σ H Q h => by
  obtain ⟨w, S, r, rfl, s, l, xs, S', h, q⟩ := call_read h
  cases h
  exact q w [] (Ext.refl w) s rfl
end
end Dn

/-! Dn 6: list comprehensions. -/
namespace Dn
open PySem PySem.Spec PyProof.Rows L2

def wipeL (r : Lo) : List Nat → Lo
  | [] => r
  | v :: vs => (wipeL r vs).set v none
theorem wipeL_get {r : Lo} {i : Nat} {x : RV} : ∀ {vs : List Nat}, (wipeL r vs)[i]? = some (some x) → r[i]? = some (some x) ∧ i ∉ vs
  | [], h => ⟨h, by simp⟩
  | v :: vs, h => by
    unfold wipeL at h
    by_cases e : v = i
    · subst e
      by_cases hl : v < (wipeL r vs).length
      · rw [List.getElem?_set_self hl] at h
        cases h
      · rw [List.getElem?_eq_none (by rw [List.length_set]; omega)] at h
        cases h
    · rw [List.getElem?_set_ne e] at h
      obtain ⟨a, b⟩ := wipeL_get h
      exact ⟨a, fun m => (List.mem_cons.mp m).elim (fun z => e z.symm) b⟩
theorem wipe_get {σ : L2.St} {i : Nat} : ∀ {vs : List Nat}, i ∉ vs → (wipe σ vs)[i]? = σ[i]?
  | [], _ => rfl
  | v :: vs, h => by
    have h1 : v ≠ i := fun e => h (by rw [e]; exact List.mem_cons_self)
    have h2 : i ∉ vs := fun m => h (List.mem_cons_of_mem _ m)
    unfold wipe
    rw [List.getElem?_set_ne h1]
    exact wipe_get h2
theorem wipe_in {σ : L2.St} {i : Nat} : ∀ {vs : List Nat}, i ∈ vs → i < σ.length → (wipe σ vs)[i]? = some none
  | v :: vs, h, hl => by
    unfold wipe
    by_cases e : v = i
    · subst e
      rw [List.getElem?_set_self (by rw [wipe_length]; exact hl)]
    · rw [List.getElem?_set_ne e]
      exact wipe_in ((List.mem_cons.mp h).elim (fun z => absurd z.symm e) id) hl
theorem wipe_set {σ : L2.St} {i : Nat} {x : Option V} {vs : List Nat} (h : i ∈ vs) : wipe (σ.set i x) vs = wipe σ vs := by
  apply List.ext_getElem?
  intro j
  by_cases hj : j ∈ vs
  · by_cases hl : j < σ.length
    · rw [wipe_in hj hl, wipe_in hj (by rw [List.length_set]; exact hl)]
    · rw [List.getElem?_eq_none (by rw [wipe_length, List.length_set]; omega), List.getElem?_eq_none (by rw [wipe_length]; omega)]
  · have hne : i ≠ j := fun e => hj (e ▸ h)
    rw [wipe_get hj, wipe_get hj, List.getElem?_set_ne hne]
theorem wipeL_length (r : Lo) : ∀ vs : List Nat, (wipeL r vs).length = r.length
  | [] => rfl
  | v :: vs => by
    unfold wipeL
    rw [List.length_set, wipeL_length r vs]
theorem LoR.wipe {K : PySem.W.Frag} {w : VW} {r : Lo} {σ : L2.St} (h : LoR K w r σ) (vs : List Nat) : LoR K w (wipeL r vs) (L2.wipe σ vs) := by
  refine ⟨by rw [wipe_length, wipeL_length]; exact h.1, fun i x e => ?_⟩
  obtain ⟨a, b⟩ := wipeL_get e
  obtain ⟨v, c, d⟩ := h.2 i x a
  exact ⟨v, by rw [wipe_get b]; exact c, d⟩

/-! ### a comprehension's own target: names that it alone holds -/
def rGv (K : PySem.W.Frag) (vs : List Nat) (g : GM) : TG := fun v σ H Q => ∃ w S r x, w.H = H ∧ StR K w S ∧ LoR K w r σ ∧ RR K w x v ∧ ∃ r' S', g x r S = some (r', S') ∧ ∀ w' σ', Ext w w' → StR K w' S' → LoR K w' r' σ' → wipe σ' vs = wipe σ vs → Q σ' w'.H
def rGvs (K : PySem.W.Frag) (vs : List Nat) (g : GsM) : TGs := fun us σ H Q => ∃ w S r xs, w.H = H ∧ StR K w S ∧ LoR K w r σ ∧ RepL K w xs us ∧ ∃ r' S', g xs r S = some (r', S') ∧ ∀ w' σ', Ext w w' → StR K w' S' → LoR K w' r' σ' → wipe σ' vs = wipe σ vs → Q σ' w'.H
section
variable {X : Cx} {tg e : Expr} {es : List Expr} {pos : Pos} {vs : List Nat}
theorem dv_name {i : Nat} {x : Str} (hN : X.N.Nodup) (hi : X.N[i]? = some x) (hx : Loc X.env.scope x) (hf : X.fn x = true ∨ X.env.scope.names.lookup x = some .local) (hv : i ∈ vs) : PG X (.Name x pos) (rGv X.K vs (gNm i)) :=
  PG.mono (pg_name hN hi hx hf) fun v σ H Q h => by
    obtain ⟨w, S, r, x, rfl, s, l, rx, r', S', h, q⟩ := h
    cases h
    exact q w _ (Ext.refl w) s (l.set rx) (wipe_set hv)
theorem dvs_nil : PGs X [] (rGvs X.K vs gsNil) := PGs.mono pgs_nil fun us σ H Q h => by
  obtain ⟨w, S, r, xs, rfl, s, l, rx, r', S', h, q⟩ := h
  cases xs with
  | nil =>
    cases h
    exact ⟨rx, q w σ (Ext.refl w) s l rfl⟩
  | cons _ _ => cases h
theorem dvs_cons {g : GM} {gs : GsM} (h1 : PG X e (rGv X.K vs g)) (h2 : PGs X es (rGvs X.K vs gs)) (hs : (assignEach (e :: es) X.env).map (·.2) = assign e X.env :: (assignEach es X.env).map (·.2)) : PGs X (e :: es) (rGvs X.K vs (gsCons g gs)) :=
  PGs.mono (pgs_cons h1 h2 hs) fun us σ H Q h => by
    obtain ⟨w, S, r, xs, rfl, s, l, rx, r', S', h, q⟩ := h
    cases xs with
    | nil => cases h
    | cons x xs =>
      unfold RepL at rx
      obtain ⟨v, vr, rfl, rv, rr⟩ := rx
      obtain ⟨⟨r1, S1⟩, g1, h⟩ := Option.bind_eq_some_iff.mp h
      refine ⟨v, vr, rfl, w, S, r, .v x, rfl, s, l, rv, r1, S1, g1, fun w1 σ1 e1 s1 l1 p1 => ?_⟩
      exact ⟨w1, S1, r1, xs, rfl, s1, l1, RepL.ext s e1 _ _ rr, r', S', h, fun w' σ' e' s' l' p' => q w' σ' (e1.trans e') s' l' (p'.trans p1)⟩
theorem dv_tup {k n : Nat} {gs : GsM} (hc : X.calm = true) (h : PGs X es (rGvs X.K vs gs)) (hn : (assignEach es X.env).length = n) (hst : (assignEach es X.env).findIdx? (·.1) = none) : PG X (.Tuple es k pos) (rGv X.K vs (gTp n gs)) :=
  PG.mono (pg_tup hc h hn hst) fun v σ H Q h => by
    obtain ⟨w, S, r, x, rfl, s, l, rx, r', S', h, q⟩ := h
    unfold gTp at h
    split at h
    · rename_i xs
      split at h
      · rename_i hl
        unfold RR Rep at rx
        obtain ⟨a, us, e1, ha, rr⟩ := rx
        exact ⟨a, us, e1, SqT.of ha, by rw [← rr.length]; exact hl, w, S, r, xs, rfl, s, l, rr, r', S', h, q⟩
      · cases h
    · cases h
end

/-! ### the loop -/
open Classical in
noncomputable def lcL (src : List (Nat × SO)) (g : GM) (mt : EM Bool) (me : EM RV) (rw : Lo) : List PV → Sto → Option (List PV × Sto)
  | [], S => if Itm.ok src S then some ([], S) else none
  | x :: xs, S => if Itm.ok src S then (g (.v x) rw S).bind fun p => (mt p.1 p.2).bind fun t => if t.1 = true then (me p.1 t.2).bind fun y => match y.1 with
      | .v z => (lcL src g mt me rw xs y.2).map fun q => (z :: q.1, q.2)
      | .ref _ => none
    else lcL src g mt me rw xs t.2 else none
noncomputable def lcR (mi : EM Itm) (vs : List Nat) (g : GM) (mt : EM Bool) (me : EM RV) (r : Lo) (S : Sto) : Option (List PV × Sto) := (mi r S).bind fun p => if smallL p.1.xs.length = true then lcL p.1.src g mt me (wipeL r vs) p.1.xs p.2 else none
noncomputable def eLc (mi : EM Itm) (vs : List Nat) (g : GM) (mt : EM Bool) (me : EM RV) : EM RV := fun r S => (lcR mi vs g mt me r S).map fun q => (.v (.lst q.1), q.2)
noncomputable def eLcM (mi : EM Itm) (vs : List Nat) (g : GM) (mt : EM Bool) (me : EM RV) : EM RV := fun r S => (lcR mi vs g mt me r S).map fun q => (.ref q.2.length, q.2 ++ [.lst q.1])

/-- the list that is being made, apart from all that is told -/
structure Apt (w : VW) (D : Addr) : Prop where
  f : ¬ w.F D
  t : D ∉ w.th
theorem Apt.ext {w w' : VW} {D : Addr} (a : Apt w D) (hD : w.H D ≠ none) (e : Ext w w') : Apt w' D ∧ w'.H D = w.H D := by
  obtain ⟨nu, e1, hn⟩ := e.p
  refine ⟨⟨fun f => ?_, fun m => ?_⟩, e.k D a.t hD⟩
  · rcases e.g D f with z | z
    · exact a.f z
    · exact hD z
  · rw [e1] at m
    rcases List.mem_append.mp m with m | m
    · exact a.t m
    · exact hD (hn D m)
def VW.put (w : VW) (D : Addr) (u : HO) : VW := ⟨w.F, w.th, upd w.H D u⟩
mutual
theorem Rep.put {K : PySem.W.Frag} {w : VW} {D : Addr} {u : HO} {ys : List V} (a : Apt w D) (hD : w.H D = some (.lst ys)) : ∀ (x : PV) (v : V), Rep K w x v → Rep K (w.put D u) x v
  | .non, _, h => h
  | .bl _, _, h => h
  | .int _, _, h => h
  | .str _, _, h => h
  | .scr ns, v, h => by
    unfold Rep at h ⊢
    obtain ⟨b, e1, h1⟩ := h
    refine ⟨b, e1, ?_⟩
    rcases h1 with ⟨o, h1⟩ | h1
    · refine .inl ⟨o, ?_⟩
      show upd w.H D u b = _
      rw [upd_ne fun e => by rw [e, hD] at h1; cases h1]
      exact h1
    · exact .inr h1
  | .tup xs, v, h => by
    unfold Rep at h ⊢
    obtain ⟨b, vs, e1, h1, h2⟩ := h
    refine ⟨b, vs, e1, ?_, RepL.put a hD xs vs h2⟩
    show upd w.H D u b = _
    rw [upd_ne fun e => by rw [e, hD] at h1; cases h1]
    exact h1
  | .lst xs, v, h => by
    unfold Rep at h ⊢
    obtain ⟨b, vs, e1, h0, h1, h2⟩ := h
    have hb : b ≠ D := fun e => a.f (e ▸ h0)
    exact ⟨b, vs, e1, h0, (upd_ne hb).trans h1, RepL.put a hD xs vs h2⟩
  | .dct t ks vs, v, h => by
    unfold Rep at h ⊢
    obtain ⟨b, t, e1, h0, h1, h2⟩ := h
    have hb : b ≠ D := fun e => a.f (e ▸ h0)
    refine ⟨b, t, e1, h0, Rd.keep h1 (upd_ne hb), ?_⟩
    rcases h2 with ⟨d, kvs, e2, e3, h2⟩ | ⟨d, kvs, e2, e3, h2⟩
    · exact .inl ⟨d, kvs, e2, e3, RepL.put a hD vs _ h2⟩
    · exact .inr ⟨d, kvs, e2, e3, RepL.put a hD vs _ h2⟩
theorem RepL.put {K : PySem.W.Frag} {w : VW} {D : Addr} {u : HO} {ys : List V} (a : Apt w D) (hD : w.H D = some (.lst ys)) : ∀ (xs : List PV) (vs : List V), RepL K w xs vs → RepL K (w.put D u) xs vs
  | [], _, h => h
  | x :: xs, vs, h => by
    unfold RepL at h ⊢
    obtain ⟨v, r, e1, h1, h2⟩ := h
    exact ⟨v, r, e1, Rep.put a hD x v h1, RepL.put a hD xs r h2⟩
end
theorem StR.put {K : PySem.W.Frag} {w : VW} {S : Sto} {D : Addr} {u : HO} {ys : List V} (s : StR K w S) (a : Apt w D) (hD : w.H D = some (.lst ys)) : StR K (w.put D u) S := by
  refine ⟨s.len, s.nd, s.nf, fun b f => ?_, fun n b o h1 h2 => ?_⟩
  · show upd w.H D u b ≠ none
    have hb : b ≠ D := fun e => a.f (e ▸ f)
    rw [upd_ne hb]
    exact s.fz b f
  · obtain ⟨t, ht, ho⟩ := s.ob n b o h1 h2
    refine ⟨t, ?_, ?_⟩
    · show upd w.H D u b = some t
      have hb : b ≠ D := fun e => a.t (e ▸ List.mem_of_getElem? h1)
      rw [upd_ne hb]
      exact ht
    · cases o with
      | lst xs =>
        obtain ⟨vs, e1, r⟩ := ho
        exact ⟨vs, e1, RepL.put a hD _ _ r⟩
      | dct t ks vs => exact DRep.mono ho fun _ _ r => RepL.put a hD _ _ r
      | ins C fs => exact ho
theorem Ext.put {w0 w : VW} {D : Addr} {u : HO} (e : Ext w0 w) (h0 : w0.H D = none) (a : Apt w D) : Ext w0 (w.put D u) := by
  refine ⟨e.f, fun b hb hn => ?_, fun b hb => ?_, e.p, e.g⟩
  · show upd w.H D u b = _
    rw [upd_ne (ne_ne hn h0)]
    exact e.k b hb hn
  · show upd w.H D u b ≠ none
    rw [upd_ne (ne_ne hb h0)]
    exact e.h b hb

/-- the comprehension's reading, as the layer asks it: fi tells what is known at the end -/
theorem lc_read {K : PySem.W.Frag} {mi : EM Itm} {vs : List Nat} {g : GM} {mt : EM Bool} {me : EM RV} {σ : L2.St} {H : Hp} {Q : VK} {r : Lo} {S S' : Sto} {w : VW} {zs : List PV} (hH : w.H = H) (s : StR K w S) (l : LoR K w r σ) (h : lcR mi vs g mt me r S = some (zs, S'))
    (fi : ∀ w' D us, Ext w w' → StR K w' S' → w.H D = none → Apt w' D → w'.H D = some (.lst us) → RepL K w' zs us → Q (.ref D) w'.H) :
    tLc (rI K mi) (rGv K vs g) (rT K mt) (rE K me) vs σ H Q := by
  subst hH
  obtain ⟨⟨it, S1⟩, h1, h⟩ := Option.bind_eq_some_iff.mp h
  split at h
  · rename_i hz
    refine ⟨w, S, r, rfl, s, l, it, S1, h1, fun w0 J e0 s0 hJ D hD => ?_⟩
    have h0D : w.H D = none := Classical.byContradiction fun z => e0.h D z hD
    refine ⟨fun i m H => m = it.xs.length - i ∧ i ≤ it.xs.length ∧ ∃ w S acc us tl, w.H = H ∧ StR K w S ∧ Ext w0 w ∧ Apt w D ∧ w.H D = some (.lst us) ∧ RepL K w acc us ∧ acc.length ≤ i ∧ lcL it.src g mt me (wipeL r vs) (it.xs.drop i) S = some (tl, S') ∧ zs = acc ++ tl, ⟨it.xs.length, by simp, Nat.zero_le _, ?_⟩, ?_⟩
    · refine ⟨w0.put D (.lst []), S1, [], [], zs, rfl, ?_, (Ext.refl w0).put hD ⟨fun f => s0.fz D f hD, fun m => ?_⟩, ⟨fun f => s0.fz D f hD, fun m => ?_⟩, upd_same, by unfold RepL; rfl, Nat.le_refl _, h, rfl⟩
      · have e := Ext.new (w := w0) (u := .lst []) (fr := false) (st := false) hD
        have q := s0.new (u := .lst []) (fr := false) hD
        refine ⟨q.len, q.nd, s0.nf, fun b f => q.fz b (.inl f), fun n b o a1 a2 => ?_⟩
        obtain ⟨u, hu, ho⟩ := q.ob n b o a1 a2
        refine ⟨u, hu, ?_⟩
        have wk : ∀ xs us, RepL K (w0.new D (.lst []) false false) xs us → RepL K (w0.put D (.lst [])) xs us := fun xs us => RepL.weak (w := w0.new D (.lst []) false false) (w' := w0.put D (.lst [])) (fun b f => f.elim id fun z => nomatch z.1) rfl xs us
        cases o with
        | lst xs =>
          obtain ⟨us, e1, r⟩ := ho
          exact ⟨us, e1, wk _ _ r⟩
        | dct t ks us => exact DRep.mono ho wk
        | ins C fs => exact ho
      all_goals
        obtain ⟨n, hn⟩ := List.getElem?_of_mem m
        have hl : n < w0.th.length := (List.getElem?_eq_some_iff.mp hn).1
        rw [s0.len] at hl
        obtain ⟨u, hu, _⟩ := s0.ob n D S1[n] hn (List.getElem?_eq_getElem hl)
        rw [hD] at hu
        cases hu
    · rintro i m H ⟨rfl, hi, w2, S2, acc, us, tl, rfl, s2, e2, a2, hD2, ra, hacc, hl, rfl⟩
      have hn0 : w2.H D ≠ none := by rw [hD2]; simp
      by_cases hlt : i < it.xs.length
      · obtain ⟨x, hx⟩ : ∃ x, it.xs[i]? = some x := ⟨it.xs[i], List.getElem?_eq_getElem hlt⟩
        have hd : it.xs.drop i = x :: it.xs.drop (i + 1) := by
          obtain ⟨g1, g2⟩ := List.getElem?_eq_some_iff.mp hx
          rw [← g2]
          exact List.drop_eq_getElem_cons hlt
        rw [hd] at hl
        unfold lcL at hl
        split at hl
        · rename_i hok
          obtain ⟨⟨r1, S3⟩, g1, hl⟩ := Option.bind_eq_some_iff.mp hl
          obtain ⟨⟨b, S4⟩, g2, hl⟩ := Option.bind_eq_some_iff.mp hl
          obtain ⟨go, yl⟩ := (hJ w2 S2 e2 s2 hok).1 i x hx
          refine .inr ⟨go, fun H' => ∃ w S acc' us tl', w.H = H' ∧ StR K w S ∧ Ext w0 w ∧ Apt w D ∧ w.H D = some (.lst us) ∧ RepL K w acc' us ∧ acc'.length ≤ i + 1 ∧ lcL it.src g mt me (wipeL r vs) (it.xs.drop (i + 1)) S = some (tl', S') ∧ acc ++ tl = acc' ++ tl', fun H' hN => ⟨it.xs.length - (i + 1), by omega, rfl, hlt, hN⟩, fun v H' y => ?_⟩
          obtain ⟨w3, rfl, e3, s3, rv⟩ := yl v H' y
          obtain ⟨a3, d3⟩ := a2.ext hn0 e3
          have l3 : LoR K w3 (wipeL r vs) (wipe σ vs) := ((((l.ext s e0).wipe vs).ext s0 e2).ext s2 e3)
          refine ⟨w3, S2, wipeL r vs, .v x, rfl, s3, l3, rv, r1, S3, g1, fun w4 σ4 e4 s4 l4 p4 => ⟨?_, ?_⟩⟩
          · rw [p4]
            apply List.ext_getElem?
            intro j
            by_cases hj : j ∈ vs
            · by_cases hl : j < σ.length
              · rw [wipe_in hj (by rw [wipe_length]; exact hl), wipe_in hj hl]
              · rw [List.getElem?_eq_none (by rw [wipe_length, wipe_length]; omega), List.getElem?_eq_none (by rw [wipe_length]; omega)]
            · rw [wipe_get hj]
          obtain ⟨a4, d4⟩ := a3.ext (by rw [d3]; exact hn0) e4
          refine ⟨w4, S3, r1, rfl, s4, l4, b, S4, g2, fun w5 e5 s5 => ?_⟩
          obtain ⟨a5, d5⟩ := a4.ext (by rw [d4, d3]; exact hn0) e5
          have ra5 := RepL.ext s4 e5 _ _ (RepL.ext s3 e4 _ _ (RepL.ext s2 e3 _ _ ra))
          have e05 := ((e2.trans e3).trans e4).trans e5
          cases b with
          | false =>
            dsimp only
            rw [if_neg Bool.false_ne_true] at hl ⊢
            exact ⟨w5, S4, acc, us, tl, rfl, s5, e05, a5, by rw [d5, d4, d3]; exact hD2, ra5, by omega, hl, rfl⟩
          | true =>
            dsimp only
            rw [if_pos rfl] at hl ⊢
            obtain ⟨⟨y, S5⟩, g3, hl⟩ := Option.bind_eq_some_iff.mp hl
            refine ⟨w5, S4, r1, rfl, s5, l4.ext s4 e5, y, S5, g3, fun w6 u e6 s6 ru => ?_⟩
            obtain ⟨a6, d6⟩ := a5.ext (by rw [d5, d4, d3]; exact hn0) e6
            have hD6 : w6.H D = some (.lst us) := by rw [d6, d5, d4, d3]; exact hD2
            cases y with
            | ref n => cases hl
            | v z =>
              obtain ⟨⟨tl2, S6⟩, g4, hl⟩ := Option.map_eq_some_iff.mp hl
              cases hl
              have ra6 := RepL.ext s5 e6 _ _ ra5
              have hlen : us.length = acc.length := ra6.length.symm
              refine ⟨us, hD6, ?_, w6.put D (.lst (us ++ [u])), S5, acc ++ [z], us ++ [u], tl2, rfl, s6.put a6 hD6, (e05.trans e6).put hD a6, ⟨a6.f, a6.t⟩, upd_same, RepL.put a6 hD6 _ _ (ra6.append (RepL.one ru)), ?_, g4, by simp⟩
              · rw [hlen]
                have := of_decide_eq_true (show decide (it.xs.length ≤ 1000000) = true from hz)
                have q : (1000000 : Nat) < sizeLine := by rw [sizeLine_eq]; decide
                omega
              · rw [List.length_append]
                simp
                omega
        · cases hl
      · have ei : i = it.xs.length := by omega
        subst ei
        rw [List.drop_length] at hl
        unfold lcL at hl
        split at hl
        · rename_i hok
          cases hl
          refine .inl ⟨(hJ w2 _ e2 s2 hok).2, ?_⟩
          rw [List.append_nil] at fi
          exact fi w2 D us (e0.trans e2) s2 h0D a2 hD2 ra
        · cases hl
  · cases h
/-- the new list is frozen, or an object of the store -/
theorem lc_frz {K : PySem.W.Frag} {w w' : VW} {S S' : Sto} {D : Addr} {us : List V} {zs : List PV} (e : Ext w w') (s' : StR K w' S') (h0 : w.H D = none) (a : Apt w' D) (hD : w'.H D = some (.lst us)) (r : RepL K w' zs us) :
    ∃ w2, w2.H = w'.H ∧ Ext w w2 ∧ StR K w2 S' ∧ Rep K w2 (.lst zs) (.ref D) := by
  refine ⟨⟨fun b => w'.F b ∨ b = D, w'.th, w'.H⟩, rfl, ⟨fun b f => .inl (e.f b f), e.k, e.h, e.p, fun b f => ?_⟩, ⟨s'.len, s'.nd, fun b m f => ?_, fun b f => ?_, fun n b o h1 h2 => ?_⟩, ?_⟩
  · rcases f with f | f
    · exact e.g b f
    · exact .inr (by rw [f]; exact h0)
  · rcases f with f | f
    · exact s'.nf b m f
    · exact a.t (f ▸ m)
  · rcases f with f | f
    · exact s'.fz b f
    · show w'.H b ≠ none
      rw [f, hD]
      simp
  · obtain ⟨t, ht, ho⟩ := s'.ob n b o h1 h2
    refine ⟨t, ht, ?_⟩
    have wk : ∀ xs us, RepL K w' xs us → RepL K ⟨fun b => w'.F b ∨ b = D, w'.th, w'.H⟩ xs us := fun xs us => RepL.weak (w := w') (w' := ⟨fun b => w'.F b ∨ b = D, w'.th, w'.H⟩) (fun _ f => Or.inl f) rfl xs us
    cases o with
    | lst xs =>
      obtain ⟨us, e1, r⟩ := ho
      exact ⟨us, e1, wk _ _ r⟩
    | dct t ks us => exact DRep.mono ho wk
    | ins C fs => exact ho
  · unfold Rep
    exact ⟨D, us, rfl, Or.inr rfl, hD, RepL.weak (w := w') (w' := ⟨fun b => w'.F b ∨ b = D, w'.th, w'.H⟩) (fun _ f => Or.inl f) rfl _ _ r⟩
theorem lc_ref {K : PySem.W.Frag} {w w' : VW} {S S' : Sto} {D : Addr} {us : List V} {zs : List PV} (e : Ext w w') (s' : StR K w' S') (h0 : w.H D = none) (a : Apt w' D) (hD : w'.H D = some (.lst us)) (r : RepL K w' zs us) :
    ∃ w2, w2.H = w'.H ∧ Ext w w2 ∧ StR K w2 (S' ++ [.lst zs]) ∧ RR K w2 (.ref S'.length) (.ref D) := by
  have wk : ∀ xs us, RepL K w' xs us → RepL K ⟨w'.F, w'.th ++ [D], w'.H⟩ xs us := fun xs us => RepL.weak (w := w') (w' := ⟨w'.F, w'.th ++ [D], w'.H⟩) (fun _ f => f) rfl xs us
  obtain ⟨nu, e1, hn⟩ := e.p
  refine ⟨⟨w'.F, w'.th ++ [D], w'.H⟩, rfl, ⟨e.f, e.k, e.h, ⟨nu ++ [D], ?_, fun b m => ?_⟩, e.g⟩, ⟨?_, ?_, fun b m f => ?_, s'.fz, fun n b o h1 h2 => ?_⟩, D, ?_, rfl⟩
  · show w'.th ++ [D] = _
    rw [e1, List.append_assoc]
  · rcases List.mem_append.mp m with m | m
    · exact hn b m
    · have z : b = D := by simpa using m
      rw [z]
      exact h0
  · show (w'.th ++ [D]).length = (S' ++ [SO.lst zs]).length
    rw [List.length_append, List.length_append, s'.len]
    rfl
  · show (w'.th ++ [D]).Nodup
    refine List.nodup_append.mpr ⟨s'.nd, by simp, fun b hb c hc => ?_⟩
    have z : c = D := by simpa using hc
    intro q
    exact a.t (z ▸ q ▸ hb)
  · rcases List.mem_append.mp m with m | m
    · exact s'.nf b m f
    · have z : b = D := by simpa using m
      exact a.f (z ▸ f)
  · have h1' : (w'.th ++ [D])[n]? = some b := h1
    by_cases hl : n < w'.th.length
    · rw [List.getElem?_append_left hl] at h1'
      rw [List.getElem?_append_left (by rw [← s'.len]; exact hl)] at h2
      obtain ⟨t, ht, ho⟩ := s'.ob n b o h1' h2
      refine ⟨t, ht, ?_⟩
      cases o with
      | lst xs =>
        obtain ⟨us, e1, r⟩ := ho
        exact ⟨us, e1, wk _ _ r⟩
      | dct t ks us => exact DRep.mono ho wk
      | ins C fs => exact ho
    · have hl2 := (List.getElem?_eq_some_iff.mp h1').1
      rw [List.length_append] at hl2
      have en : n = w'.th.length := by
        have : n < w'.th.length + 1 := hl2
        omega
      subst en
      rw [List.getElem?_append_right (Nat.le_refl _)] at h1'
      rw [List.getElem?_append_right (by rw [s'.len]; exact Nat.le_refl _), s'.len] at h2
      simp at h1' h2
      subst h1' h2
      exact ⟨_, hD, us, rfl, wk _ _ r⟩
  · show (w'.th ++ [D])[S'.length]? = some D
    rw [← s'.len]
    simp
section
variable {X : Cx} {elt tg iter : Expr} {ifs : List Expr} {scope : Scope} {own : List (Str × Nat)} {pos spos py : Pos} {mi : EM Itm} {g : GM} {mt : EM Bool} {me : EM RV}
/-- the parts of a comprehension, in its own block -/
structure LcOk (X : Cx) (elt tg iter : Expr) (ifs : List Expr) (scope : Scope) (own : List (Str × Nat)) (mi : EM Itm) (g : GM) (mt : EM Bool) (me : EM RV) : Prop where
  hc : X.calm = true
  hN : X.N.Nodup
  hi : PI X tg iter (rI X.K mi)
  ok : BlkOk X.N X.env.scope scope own
  hg : ∀ (s : Shared) (H : Hp) (C : Addr) (cl : List (Str × Addr)) (fp : List Addr), PG (X.blk s H scope (compEnvC scope cl C X.env) fp) tg (rGv X.K (own.map (·.2)) g)
  ht : ∀ (s : Shared) (H : Hp) (C : Addr) (cl : List (Str × Addr)) (fp : List Addr), PTs (X.blk s H scope (compEnvC scope cl C X.env) fp) ifs (rT X.K mt)
  he : ∀ (s : Shared) (H : Hp) (C : Addr) (cl : List (Str × Addr)) (fp : List Addr), PE (X.blk s H scope (compEnvC scope cl C X.env) fp) elt (rE X.K me)
  hs : ∀ x, foldedSetIterable iter X.env x = pure x
theorem lc_readE {K : PySem.W.Frag} {σ : L2.St} {H : Hp} {Q : VK} {vs : List Nat} (h : rE K (eLc mi vs g mt me) σ H Q) : tLc (rI K mi) (rGv K vs g) (rT K mt) (rE K me) vs σ H Q := by
  obtain ⟨w, S, r, hH, s, l, x, S', h, q⟩ := h
  obtain ⟨⟨zs, S1⟩, h1, h⟩ := Option.map_eq_some_iff.mp h
  cases h
  refine lc_read hH s l h1 fun w' D us e' s' h0 a hD rr => ?_
  obtain ⟨w2, hw, e2, s2, r2⟩ := lc_frz (S := S) e' s' h0 a hD rr
  rw [← hw]
  exact q w2 _ e2 s2 r2
theorem lc_readM {K : PySem.W.Frag} {σ : L2.St} {H : Hp} {Q : VK} {vs : List Nat} (h : rE K (eLcM mi vs g mt me) σ H Q) : tLc (rI K mi) (rGv K vs g) (rT K mt) (rE K me) vs σ H Q := by
  obtain ⟨w, S, r, hH, s, l, x, S', h, q⟩ := h
  obtain ⟨⟨zs, S1⟩, h1, h⟩ := Option.map_eq_some_iff.mp h
  cases h
  refine lc_read hH s l h1 fun w' D us e' s' h0 a hD rr => ?_
  obtain ⟨w2, hw, e2, s2, r2⟩ := lc_ref (S := S) e' s' h0 a hD rr
  rw [← hw]
  exact q w2 _ e2 s2 r2
theorem de_lc (L : LcOk X elt tg iter ifs scope own mi g mt me) : PE X (.ListComp elt [⟨tg, iter, ifs, 0⟩] scope pos) (rE X.K (eLc mi (own.map (·.2)) g mt me)) :=
  PE.mono (pe_lc L.hc L.hN L.hi L.ok L.hg L.ht L.he L.hs) fun _ _ _ h => lc_readE h
theorem de_lcM (L : LcOk X elt tg iter ifs scope own mi g mt me) : PE X (.ListComp elt [⟨tg, iter, ifs, 0⟩] scope pos) (rE X.K (eLcM mi (own.map (·.2)) g mt me)) :=
  PE.mono (pe_lc L.hc L.hN L.hi L.ok L.hg L.ht L.he L.hs) fun _ _ _ h => lc_readM h
theorem setLc_read {K : PySem.W.Frag} {i : Nat} {ma : EM RV} {t : TE} (f : ∀ σ H Q, rE K ma σ H Q → t σ H Q) {D : Ends} {σ : L2.St} {H : Hp} (h : rS K (sAsg ma (gNm i)) D σ H) : tAsg t (gName i) D σ H := by
  refine f _ _ _ ?_
  obtain ⟨w, S, r, rfl, s, l, o, S', h, q⟩ := h
  obtain ⟨⟨x, S1⟩, g1, h⟩ := Option.bind_eq_some_iff.mp h
  obtain ⟨⟨r2, S2⟩, g2, h⟩ := Option.map_eq_some_iff.mp h
  cases g2
  cases h
  exact ⟨w, S, r, rfl, s, l, x, _, g1, fun w1 v e1 s1 rv => q w1 _ e1 s1 ((l.ext s e1).set rv)⟩
theorem ds_setLc {i : Nat} {y : Str} (L : LcOk X elt tg iter ifs scope own mi g mt me) (hy : X.N[i]? = some y) (hyl : X.env.scope.names.lookup y = some .local)
    (hsw : swapsWith (.ListComp elt [⟨tg, iter, ifs, 0⟩] scope pos) (some (.Name y py)) spos.line X.env = pure true) :
    PS X (.Assign [.Name y py] (.ListComp elt [⟨tg, iter, ifs, 0⟩] scope pos) spos) (rS X.K (sAsg (eLc mi (own.map (·.2)) g mt me) (gNm i))) :=
  PS.mono (ps_setLc L.hc L.hN hy hyl hsw L.hi L.ok L.hg L.ht L.he L.hs) fun _ _ _ h => setLc_read (fun _ _ _ h => lc_readE h) h
theorem ds_setLcM {i : Nat} {y : Str} (L : LcOk X elt tg iter ifs scope own mi g mt me) (hy : X.N[i]? = some y) (hyl : X.env.scope.names.lookup y = some .local)
    (hsw : swapsWith (.ListComp elt [⟨tg, iter, ifs, 0⟩] scope pos) (some (.Name y py)) spos.line X.env = pure true) :
    PS X (.Assign [.Name y py] (.ListComp elt [⟨tg, iter, ifs, 0⟩] scope pos) spos) (rS X.K (sAsg (eLcM mi (own.map (·.2)) g mt me) (gNm i))) :=
  PS.mono (ps_setLc L.hc L.hN hy hyl hsw L.hi L.ok L.hg L.ht L.he L.hs) fun _ _ _ h => setLc_read (fun _ _ _ h => lc_readM h) h
end
/-- the tests of a clause -/
def tYe : EM Bool := fun _ S => some (true, S)
theorem dts_nil {X : Cx} : PTs X [] (rT X.K tYe) := ⟨fun pins s σ H Q I h => pts_nil.run pins s σ H Q I (by
  obtain ⟨w, S, r, rfl, sr, l, b, S', h, q⟩ := h
  cases h
  exact q w (Ext.refl w) sr)⟩
theorem dts_one {X : Cx} {c : Expr} {m : EM Bool} (h : PT X c (rT X.K m)) : PTs X [c] (rT X.K m) := pts_one h
end Dn

/-! Dn 7: operations by values. -/
namespace Dn
open PySem PySem.Spec PyProof.Rows L2

/-! ### what is read as data -/
mutual
def toD : PV → PyData
  | .non => .none
  | .bl b => .bool b
  | .int i => .int i
  | .str x => .str x
  | .tup xs => .tuple (toDL xs)
  | .lst xs => .list (toDL xs)
  | .dct t ks vs => .dict ((toDL ks).zip (toDL vs))
  | .scr ns => .list (ns.map .int)
def toDL : List PV → List PyData
  | [] => []
  | x :: xs => toD x :: toDL xs
end
/- no dict, not the script -/
mutual
def plainP : PV → Bool
  | .non | .bl _ | .int _ | .str _ => true
  | .tup xs => plainL xs
  | .lst xs => plainL xs
  | .dct _ _ _ => false
  | .scr _ => false
def plainL : List PV → Bool
  | [] => true
  | x :: xs => plainP x && plainL xs
end
mutual
def dep : PV → Nat
  | .non | .bl _ | .int _ | .str _ => 0
  | .tup xs => depL xs + 1
  | .lst xs => depL xs + 1
  | .dct t ks vs => max (depL ks) (depL vs) + 1
  | .scr _ => 1
def depL : List PV → Nat
  | [] => 0
  | x :: xs => max (dep x) (depL xs)
end
mutual
theorem plain_toD : ∀ x : PV, plainP x = true → (toD x).plain = true
  | .non, _ => rfl
  | .bl _, _ => rfl
  | .int _, _ => rfl
  | .str _, _ => rfl
  | .tup xs, h => by
    unfold toD PyData.plain
    exact plain_toDL xs (by unfold plainP at h; exact h)
  | .lst xs, h => by
    unfold toD PyData.plain
    exact plain_toDL xs (by unfold plainP at h; exact h)
  | .dct _ _ _, h => by unfold plainP at h; cases h
  | .scr _, h => by unfold plainP at h; cases h
theorem plain_toDL : ∀ xs : List PV, plainL xs = true → PyData.plainAll (toDL xs) = true
  | [], _ => rfl
  | x :: xs, h => by
    unfold plainL at h
    obtain ⟨h1, h2⟩ := Bool.and_eq_true_iff.mp h
    unfold toDL PyData.plainAll
    rw [plain_toD x h1, plain_toDL xs h2]
    rfl
end
mutual
theorem dep_toD : ∀ x : PV, plainP x = true → (toD x).depth = dep x
  | .non, _ => rfl
  | .bl _, _ => rfl
  | .int _, _ => rfl
  | .str _, _ => rfl
  | .tup xs, h => by
    unfold toD PyData.depth dep
    rw [dep_toDL xs (by unfold plainP at h; exact h)]
  | .lst xs, h => by
    unfold toD PyData.depth dep
    rw [dep_toDL xs (by unfold plainP at h; exact h)]
  | .dct _ _ _, h => by unfold plainP at h; cases h
  | .scr _, h => by unfold plainP at h; cases h
theorem dep_toDL : ∀ xs : List PV, plainL xs = true → PyData.depthAll (toDL xs) = depL xs
  | [], _ => rfl
  | x :: xs, h => by
    unfold plainL at h
    obtain ⟨h1, h2⟩ := Bool.and_eq_true_iff.mp h
    unfold toDL PyData.depthAll depL
    rw [dep_toD x h1, dep_toDL xs h2]
end
section
variable {X : Cx} {pins : List (Addr × Obj)} {σ : L2.St} {H : Hp} {s : Shared} {w : VW}
mutual
theorem Rep.reads (I : Inv X pins σ w.H s) : ∀ (x : PV) (v : V) (u : Value), plainP x = true → Rep X.K w x v → RelV v u → ∃ as, Reads s.heap u (toD x) as
  | .non, _, _, _, h, r => by
    unfold Rep at h
    subst h
    cases r
    exact ⟨_, Reads.none⟩
  | .bl b, _, _, _, h, r => by
    unfold Rep at h
    subst h
    cases r
    exact ⟨_, Reads.bool b⟩
  | .int i, _, _, _, h, r => by
    unfold Rep at h
    subst h
    obtain ⟨t, rfl⟩ := r
    exact ⟨_, Reads.int i t⟩
  | .str x, _, _, _, h, r => by
    unfold Rep at h
    subst h
    obtain ⟨t, rfl⟩ := r
    exact ⟨_, Reads.str x t⟩
  | .lst xs, _, _, p, h, r => by
    unfold Rep at h
    obtain ⟨a, vs, rfl, _, h1, h2⟩ := h
    cases r
    obtain ⟨its, rv, ⟨o, n, ho, hc, _, hd⟩, _⟩ := I.list (SqL.of (K := X.K) h1)
    obtain ⟨as, hr⟩ := RepL.reads I xs vs its (by unfold plainP at p; exact p) h2 rv
    exact ⟨_, by unfold toD; exact Reads.list ho hc hd hr⟩
  | .tup xs, _, _, p, h, r => by
    unfold Rep at h
    obtain ⟨a, vs, rfl, h1, h2⟩ := h
    cases r
    obtain ⟨its, rv, ⟨o, ho, hc, n, hd⟩, _⟩ := I.tuple (SqT.of (K := X.K) h1)
    obtain ⟨as, hr⟩ := RepL.reads I xs vs its (by unfold plainP at p; exact p) h2 rv
    exact ⟨_, by unfold toD; exact Reads.tuple ho hc hd hr⟩
  | .dct _ _ _, _, _, p, _, _ => by unfold plainP at p; cases p
  | .scr _, _, _, p, _, _ => by unfold plainP at p; cases p
theorem RepL.reads (I : Inv X pins σ w.H s) : ∀ (xs : List PV) (vs : List V) (us : List Value), plainL xs = true → RepL X.K w xs vs → Vals vs us → ∃ as, ReadsAll s.heap us (toDL xs) as
  | [], _, _, _, h, r => by
    unfold RepL at h
    subst h
    cases r
    exact ⟨_, ReadsAll.nil⟩
  | x :: xs, _, _, p, h, r => by
    unfold RepL at h
    obtain ⟨v, vr, rfl, h1, h2⟩ := h
    unfold plainL at p
    obtain ⟨p1, p2⟩ := Bool.and_eq_true_iff.mp p
    cases r with
    | cons r1 r2 =>
      obtain ⟨as, q1⟩ := Rep.reads I x v _ p1 h1 r1
      obtain ⟨bs, q2⟩ := RepL.reads I xs vr _ p2 h2 r2
      exact ⟨_, by unfold toDL; exact ReadsAll.cons q1 q2⟩
end
theorem RepW.reads (I : Inv X pins σ w.H s) {x : PV} {v : V} {u : Value} (p : plainP x = true) (h : RepW X.K w x v) (r : RelV v u) : ∃ as, Reads s.heap u (toD x) as := by
  cases x with
  | lst xs =>
    obtain ⟨a, vs, rfl, h1, h2⟩ := h
    cases r
    obtain ⟨its, rv, ⟨o, n, ho, hc, _, hd⟩, _⟩ := I.list (SqL.of (K := X.K) h1)
    obtain ⟨as, hr⟩ := RepL.reads I xs vs its (by unfold plainP at p; exact p) h2 rv
    exact ⟨_, by unfold toD; exact Reads.list ho hc hd hr⟩
  | dct t ks vs => unfold plainP at p; cases p
  | scr ns => unfold plainP at p; cases p
  | non => exact Rep.reads I _ v u p h r
  | bl b => exact Rep.reads I _ v u p h r
  | int i => exact Rep.reads I _ v u p h r
  | str x => exact Rep.reads I _ v u p h r
  | tup xs => exact Rep.reads I _ v u p h r
end

/-! ### arithmetic -/
def bigL : Nat := 400000
/-- may two numbers be multiplied: one below 2^64, or both not too long -/
def mulOk (i j : Int) : Bool := decide (i.natAbs < 2 ^ 64) || (decide (j.natAbs < 2 ^ 64) || decide (i.natAbs.log2 + j.natAbs.log2 < 1000000))
def addP : PV → PV → Option PV
  | .int i, .int j => some (.int (i + j))
  | .tup xs, .tup ys => if smallL (xs.length + ys.length) = true then some (.tup (xs ++ ys)) else none
  | .lst xs, .lst ys => if smallL (xs.length + ys.length) = true then some (.lst (xs ++ ys)) else none
  | .str a, .str b => if smallL (a.length + b.length) = true then some (.str (a ++ b)) else none
  | _, _ => none
def subP : PV → PV → Option PV
  | .int i, .int j => some (.int (i - j))
  | _, _ => none
def mulP : PV → PV → Option PV
  | .int i, .int j => if mulOk i j = true then some (.int (i * j)) else none
  | .lst xs, .int k => if decide (0 ≤ k) && decide (k ≤ 1000) && decide (xs.length ≤ 1000) then some (.lst (List.replicate k.toNat xs).flatten) else none
  | .tup xs, .int k => if decide (2 ≤ k) && decide (k ≤ 1000) && decide (xs.length ≤ 1000) && !xs.isEmpty then some (.tup (List.replicate k.toNat xs).flatten) else none
  | _, _ => none
/-- the divisor above 0, not too long -/
def divOk (j : Int) : Bool := decide (0 < j) && decide (j.natAbs.log2 < 9000)
def fdivP : PV → PV → Option PV
  | .int i, .int j => if divOk j = true then some (.int (i / j)) else none
  | _, _ => none
def modP : PV → PV → Option PV
  | .int i, .int j => if 0 < j then some (.int (i % j)) else none
  | _, _ => none
def powP : PV → PV → Option PV
  | .int i, .int j => if decide (0 ≤ j) && decide (j ≤ 1000000) && decide (i.natAbs < 2 ^ 64) then some (.int (i ^ j.toNat)) else none
  | _, _ => none
theorem RepW.int {K : PySem.W.Frag} {w : VW} {i : Int} {v : V} (h : RepW K w (.int i) v) : v = .int i := h
theorem rI0_of {X : Cx} {f : Value → Value → Sem Value} {g : Int → Int → V} {K : PySem.W.Frag} {p : PV → PV → Option PV} (h : OpR X f (rI0 g)) (hp : ∀ x y z, p x y = some z → ∃ i j, x = .int i ∧ y = .int j ∧ ∀ w, Rep K w z (g i j)) : OpR X f (r2 K p) := by
  intro pins s σ H x y v u Q I rx ry ⟨w, S, px, py, z, hH, sr, rpx, rpy, hg, q⟩
  obtain ⟨i, j, rfl, rfl, hz⟩ := hp _ _ _ hg
  refine h pins s σ H x y v u Q I rx ry ⟨i, j, rpx, rpy, ?_⟩
  rw [← hH]
  exact q w _ (Ext.refl w) sr (hz w)
theorem op_subP {X : Cx} : OpR X (binaryOp .Sub) (r2 X.K subP) := rI0_of op_sub fun x y z h => by
  unfold subP at h
  split at h
  · cases h
    exact ⟨_, _, rfl, rfl, fun _ => rfl⟩
  · cases h
theorem iop_subP {X : Cx} : OpR X (inplaceOp .Sub) (r2 X.K subP) := rI0_of iop_sub fun x y z h => by
  unfold subP at h
  split at h
  · cases h
    exact ⟨_, _, rfl, rfl, fun _ => rfl⟩
  · cases h
theorem lt_of_abs {i : Int} (h : i.natAbs < 2 ^ 64) : -(2 ^ 64) < i ∧ i < 2 ^ 64 := by omega
theorem op_mulP {X : Cx} : OpR X (binaryOp .Mult) (r2 X.K mulP) := by
  intro pins s σ H x y v u Q I rx ry ⟨w, S, px, py, z, hH, sr, rpx, rpy, hg, q⟩
  subst hH
  unfold mulP at hg
  split at hg
  · rename_i i j
    split at hg
    · rename_i hm
      cases hg
      obtain rfl : x = .int i := rpx
      obtain rfl : y = .int j := rpy
      have qq := q w (.int (i * j)) (Ext.refl w) sr rfl
      unfold mulOk at hm
      rw [Bool.or_eq_true, Bool.or_eq_true, decide_eq_true_eq, decide_eq_true_eq, decide_eq_true_eq] at hm
      rcases hm with hm | hm | hm
      · exact op_mul pins s σ _ _ _ v u Q I rx ry ⟨i, j, rfl, rfl, .inl (lt_of_abs hm), qq⟩
      · exact op_mul pins s σ _ _ _ v u Q I rx ry ⟨i, j, rfl, rfl, .inr (lt_of_abs hm), qq⟩
      · exact op_mulW pins s σ _ _ _ v u Q I rx ry ⟨i, j, rfl, rfl, hm, qq⟩
    · cases hg
  · rename_i xs k
    split at hg
    · rename_i hm
      cases hg
      simp only [Bool.and_eq_true, decide_eq_true_eq] at hm
      obtain ⟨⟨h0, h1⟩, h2⟩ := hm
      obtain ⟨a, vs, rfl, ha, hr⟩ := rpx
      obtain rfl : y = .int k := rpy
      have hl := hr.length
      have hk : k.toNat ≤ 1000 := by omega
      have hb : vs.length * k.toNat ≤ 1000 * 1000 := Nat.mul_le_mul (by omega) hk
      refine op_rep pins s σ _ _ _ v u Q I rx ry ⟨a, k, vs, rfl, rfl, ha, by omega, by omega, ?_, fun p hp => ?_⟩
      · rw [sizeLine_eq]
        omega
      · have rr : RepL X.K w (List.replicate k.toNat xs).flatten (List.replicate k.toNat vs).flatten := by
          clear hb hk h0 h1 h2 q
          induction k.toNat with
          | zero =>
            show RepL X.K w [] []
            unfold RepL
            rfl
          | succ n ih =>
            rw [List.replicate_succ, List.replicate_succ, List.flatten_cons, List.flatten_cons]
            exact hr.append ih
        obtain ⟨w2, hw, e2, s2, r2⟩ := mk_lst sr hp rr
        rw [← hw]
        exact q w2 _ e2 s2 r2
    · cases hg
  · rename_i xs k
    split at hg
    · rename_i hm
      cases hg
      simp only [Bool.and_eq_true, decide_eq_true_eq, Bool.not_eq_true'] at hm
      obtain ⟨⟨⟨h0, h1⟩, h2⟩, h3⟩ := hm
      have rpx' : Rep X.K w (.tup xs) x := rpx
      unfold Rep at rpx'
      obtain ⟨a, vs, rfl, ha, hr⟩ := rpx'
      obtain rfl : y = .int k := rpy
      have hl := hr.length
      refine op_repT pins s σ _ _ _ v u Q I rx ry ⟨a, k, vs, rfl, rfl, SqT.of ha, fun e => ?_, h0, h1, by omega, fun p hp => ?_⟩
      · rw [e] at hl
        have hx : xs = [] := List.length_eq_zero_iff.mp hl
        rw [hx] at h3
        cases h3
      · have rr : RepL X.K w (List.replicate k.toNat xs).flatten (List.replicate k.toNat vs).flatten := by
          clear h0 h1 h2 q
          induction k.toNat with
          | zero =>
            show RepL X.K w [] []
            unfold RepL
            rfl
          | succ n ih =>
            rw [List.replicate_succ, List.replicate_succ, List.flatten_cons, List.flatten_cons]
            exact hr.append ih
        obtain ⟨w2, hw, e2, s2, r2⟩ := mk_tup sr hp rr
        rw [← hw]
        exact q w2 _ e2 s2 r2
    · cases hg
  · cases hg
theorem op_fdivP {X : Cx} : OpR X (binaryOp .FloorDiv) (r2 X.K fdivP) := by
  intro pins s σ H x y v u Q I rx ry ⟨w, S, px, py, z, hH, sr, rpx, rpy, hg, q⟩
  subst hH
  unfold fdivP at hg
  split at hg
  · rename_i i j
    split at hg
    · rename_i hm
      cases hg
      unfold divOk at hm
      rw [Bool.and_eq_true, decide_eq_true_eq, decide_eq_true_eq] at hm
      exact op_fdivW pins s σ _ _ _ v u Q I rx ry ⟨i, j, rpx, rpy, hm, q w _ (Ext.refl w) sr rfl⟩
    · cases hg
  · cases hg
theorem op_modP {X : Cx} : OpR X (binaryOp .Mod) (r2 X.K modP) := by
  intro pins s σ H x y v u Q I rx ry ⟨w, S, px, py, z, hH, sr, rpx, rpy, hg, q⟩
  subst hH
  unfold modP at hg
  split at hg
  · rename_i i j
    split at hg
    · rename_i hm
      cases hg
      exact op_mod pins s σ _ _ _ v u Q I rx ry ⟨i, j, rpx, rpy, hm, q w _ (Ext.refl w) sr rfl⟩
    · cases hg
  · cases hg
theorem op_powP {X : Cx} : OpR X (binaryOp .Pow) (r2 X.K powP) := by
  intro pins s σ H x y v u Q I rx ry ⟨w, S, px, py, z, hH, sr, rpx, rpy, hg, q⟩
  subst hH
  unfold powP at hg
  split at hg
  · rename_i i j
    split at hg
    · rename_i hm
      cases hg
      simp only [Bool.and_eq_true, decide_eq_true_eq] at hm
      exact op_pow pins s σ _ _ _ v u Q I rx ry ⟨i, j, rpx, rpy, ⟨hm.1.1, hm.1.2, hm.2⟩, q w _ (Ext.refl w) sr rfl⟩
    · cases hg
  · cases hg
theorem op_addP {X : Cx} : OpR X (binaryOp .Add) (r2 X.K addP) := by
  intro pins s σ H x y v u Q I rx ry ⟨w, S, px, py, z, hH, sr, rpx, rpy, hg, q⟩
  subst hH
  unfold addP at hg
  split at hg
  · cases hg
    exact op_add pins s σ _ _ _ v u Q I rx ry ⟨_, _, rpx, rpy, q w _ (Ext.refl w) sr rfl⟩
  · rename_i xs ys
    split at hg
    · rename_i hz
      cases hg
      have rpx' : Rep X.K w (.tup xs) x := rpx
      have rpy' : Rep X.K w (.tup ys) y := rpy
      unfold Rep at rpx' rpy'
      obtain ⟨a, vs, rfl, ha, hr⟩ := rpx'
      obtain ⟨b, us, rfl, hb, hs⟩ := rpy'
      refine op_catA pins s σ _ _ _ v u Q I rx ry ⟨a, b, vs, us, rfl, rfl, SqT.of ha, SqT.of hb, by rw [← hr.length, ← hs.length]; exact smallL_le hz, fun e => ?_, fun _ e => ?_, fun _ _ p hp => ?_⟩
      · subst e
        have hx : xs = [] := List.length_eq_zero_iff.mp hr.length
        subst hx
        refine q w _ (Ext.refl w) sr ?_
        unfold Rep
        exact ⟨b, us, rfl, hb, hs⟩
      · subst e
        have hy : ys = [] := List.length_eq_zero_iff.mp hs.length
        subst hy
        refine q w _ (Ext.refl w) sr ?_
        unfold Rep
        exact ⟨a, vs, rfl, ha, by rw [List.append_nil]; exact hr⟩
      · obtain ⟨w2, hw, e2, s2, r2⟩ := mk_tup sr hp (hr.append hs)
        rw [← hw]
        exact q w2 _ e2 s2 r2
    · cases hg
  · rename_i xs ys
    split at hg
    · rename_i hz
      cases hg
      obtain ⟨a, vs, rfl, ha, hr⟩ := rpx
      obtain ⟨b, us, rfl, hb, hs⟩ := rpy
      refine op_cat pins s σ _ _ _ v u Q I rx ry ⟨a, b, vs, us, rfl, rfl, ha, hb, by rw [← hr.length, ← hs.length]; exact smallL_le hz, fun p hp => ?_⟩
      obtain ⟨w2, hw, e2, s2, r2⟩ := mk_lst sr hp (hr.append hs)
      rw [← hw]
      exact q w2 _ e2 s2 r2
    · cases hg
  · split at hg
    · rename_i hz
      cases hg
      exact op_add_str pins s σ _ _ _ v u Q I rx ry ⟨_, _, rpx, rpy, smallL_le hz, q w _ (Ext.refl w) sr rfl⟩
    · cases hg
  · cases hg
def negP : PV → Option PV
  | .int i => some (.int (-i))
  | _ => none
def e1 (g : PV → Option PV) (ma : EM RV) : EM RV := fun r S => (ma r S).bind fun p => (peek p.2 p.1).bind fun x => (g x).map fun z => (.v z, p.2)
theorem e1_some {g : PV → Option PV} {ma : EM RV} {r : Lo} {S S' : Sto} {x : RV} (h : e1 g ma r S = some (x, S')) : ∃ xa px z, ma r S = some (xa, S') ∧ peek S' xa = some px ∧ g px = some z ∧ x = .v z := by
  obtain ⟨⟨xa, Sa⟩, h1, h⟩ := Option.bind_eq_some_iff.mp h
  obtain ⟨px, h3, h⟩ := Option.bind_eq_some_iff.mp h
  obtain ⟨z, h5, h⟩ := Option.map_eq_some_iff.mp h
  cases h
  exact ⟨xa, px, z, h1, h3, h5, rfl⟩
theorem de_neg {X : Cx} {a : Expr} {ma : EM RV} {pos : Pos} (ha : PE X a (rE X.K ma)) : PE X (.UnaryOp .USub a pos) (rE X.K (e1 negP ma)) :=
  PE.mono (pe_un un_neg ha) fun σ H Q h => by
    obtain ⟨w, S, r, rfl, s, l, x, S', h, q⟩ := h
    obtain ⟨xa, px, z, h1, h2, h3, rfl⟩ := e1_some h
    refine ⟨w, S, r, rfl, s, l, xa, S', h1, fun w1 v e1 s1 rv => ?_⟩
    have rp := rv.toW s1 h2
    unfold negP at h3
    split at h3
    · cases h3
      exact ⟨_, rp, q w1 _ e1 s1 rfl⟩
    · cases h3
end Dn

/-! Dn 8: comparisons, places, slices. -/
namespace Dn
open PySem PySem.Spec PyProof.Rows L2

/-! ### order -/
def ltP : PV → PV → Option PV
  | .int i, .int j => some (.bl (decide (i < j)))
  | _, _ => none
def leP : PV → PV → Option PV
  | .int i, .int j => some (.bl (decide (i ≤ j)))
  | _, _ => none
def gtP : PV → PV → Option PV
  | .int i, .int j => some (.bl (decide (j < i)))
  | _, _ => none
def geP : PV → PV → Option PV
  | .int i, .int j => some (.bl (decide (j ≤ i)))
  | _, _ => none
section
variable {X : Cx}
theorem op_ltP : OpR X (compareOp .Lt) (r2 X.K ltP) := rI0_of op_lt fun x y z h => by
  unfold ltP at h
  split at h
  · cases h
    exact ⟨_, _, rfl, rfl, fun _ => rfl⟩
  · cases h
theorem op_leP : OpR X (compareOp .LtE) (r2 X.K leP) := rI0_of op_le fun x y z h => by
  unfold leP at h
  split at h
  · cases h
    exact ⟨_, _, rfl, rfl, fun _ => rfl⟩
  · cases h
theorem op_gtP : OpR X (compareOp .Gt) (r2 X.K gtP) := rI0_of op_gt fun x y z h => by
  unfold gtP at h
  split at h
  · cases h
    exact ⟨_, _, rfl, rfl, fun _ => rfl⟩
  · cases h
theorem op_geP : OpR X (compareOp .GtE) (r2 X.K geP) := rI0_of op_ge fun x y z h => by
  unfold geP at h
  split at h
  · cases h
    exact ⟨_, _, rfl, rfl, fun _ => rfl⟩
  · cases h
/-! ### equal -/
def eqvP (x y : PV) : Bool := PyData.eqv (toD x) (toD y)
def dataOk (x : PV) : Bool := plainP x && decide (dep x ≤ 50)
/-- the same dicts, of keys and values without dicts -/
def eqP (x y : PV) : Option PV := if dataOk x && dataOk y then some (.bl (eqvP x y)) else none
def neP (x y : PV) : Option PV := if dataOk x && dataOk y then some (.bl (!eqvP x y)) else none
theorem dataOk_of {x : PV} (h : dataOk x = true) : plainP x = true ∧ (toD x).plain = true ∧ (toD x).depth ≤ 50 := by
  unfold dataOk at h
  rw [Bool.and_eq_true, decide_eq_true_eq] at h
  exact ⟨h.1, plain_toD x h.1, by rw [dep_toD x h.1]; exact h.2⟩
theorem op_eqP (hu : X.A.units + 64 < cLine) : OpR X (compareOp .Eq) (r2 X.K eqP) := by
  intro pins s σ H x y v u Q I rx ry ⟨w, S, px, py, z, hH, sr, rpx, rpy, hg, q⟩
  subst hH
  unfold eqP at hg
  split at hg
  · rename_i hz
    cases hg
    obtain ⟨h1, h2⟩ := Bool.and_eq_true_iff.mp hz
    obtain ⟨p1, d1, e1⟩ := dataOk_of h1
    obtain ⟨p2, d2, e2⟩ := dataOk_of h2
    obtain ⟨as, r1⟩ := RepW.reads I p1 rpx rx
    obtain ⟨bs, r2⟩ := RepW.reads I p2 rpy ry
    exact SeqAt.eq_plain r1 r2 d1 d2 (by have := Nat.min_le_left (toD px).depth (toD py).depth; omega) ⟨.bl _, w.H, I, rfl, q w _ (Ext.refl w) sr rfl⟩
  · cases hg
theorem op_neP (hu : X.A.units + 64 < cLine) : OpR X (compareOp .NotEq) (r2 X.K neP) := by
  intro pins s σ H x y v u Q I rx ry ⟨w, S, px, py, z, hH, sr, rpx, rpy, hg, q⟩
  subst hH
  unfold neP at hg
  split at hg
  · rename_i hz
    cases hg
    obtain ⟨h1, h2⟩ := Bool.and_eq_true_iff.mp hz
    obtain ⟨p1, d1, e1⟩ := dataOk_of h1
    obtain ⟨p2, d2, e2⟩ := dataOk_of h2
    obtain ⟨as, r1⟩ := RepW.reads I p1 rpx rx
    obtain ⟨bs, r2⟩ := RepW.reads I p2 rpy ry
    exact SeqAt.ne_plain r1 r2 d1 d2 (by have := Nat.min_le_left (toD px).depth (toD py).depth; omega) ⟨.bl _, w.H, I, rfl, q w _ (Ext.refl w) sr rfl⟩
  · cases hg
/-! ### is None -/
def isNon : PV → Bool
  | .non => true
  | _ => false
def isP : PV → PV → Option PV
  | x, .non => some (.bl (isNon x))
  | _, _ => none
def isntP : PV → PV → Option PV
  | x, .non => some (.bl (!isNon x))
  | _, _ => none
theorem non_dec {K : PySem.W.Frag} {w : VW} {x : PV} {v : V} (h : RepW K w x v) : decide (v = .non) = isNon x := by
  cases x with
  | non =>
    obtain rfl : v = .non := h
    rfl
  | bl b =>
    obtain rfl : v = .bl b := h
    rfl
  | int b =>
    obtain rfl : v = .int b := h
    rfl
  | str b =>
    obtain rfl : v = .str b := h
    rfl
  | tup xs =>
    have h' : Rep K w (.tup xs) v := h
    unfold Rep at h'
    obtain ⟨a, vs, rfl, _⟩ := h'
    rfl
  | lst xs =>
    obtain ⟨a, vs, rfl, _⟩ := h
    rfl
  | dct t ks vs =>
    obtain ⟨a, u, rfl, _⟩ := h
    rfl
  | scr ns =>
    have h' : Rep K w (.scr ns) v := h
    unfold Rep at h'
    obtain ⟨a, rfl, _⟩ := h'
    rfl
theorem op_isP : OpR X (compareOp .Is) (r2 X.K isP) := by
  intro pins s σ H x y v u Q I rx ry ⟨w, S, px, py, z, hH, sr, rpx, rpy, hg, q⟩
  subst hH
  unfold isP at hg
  split at hg
  · cases hg
    refine op_isN pins s σ _ _ _ v u Q I rx ry ⟨rpy, ?_⟩
    rw [non_dec rpx]
    exact q w _ (Ext.refl w) sr rfl
  · cases hg
theorem op_isntP : OpR X (compareOp .IsNot) (r2 X.K isntP) := by
  intro pins s σ H x y v u Q I rx ry ⟨w, S, px, py, z, hH, sr, rpx, rpy, hg, q⟩
  subst hH
  unfold isntP at hg
  split at hg
  · cases hg
    refine op_notN pins s σ _ _ _ v u Q I rx ry ⟨rpy, ?_⟩
    rw [non_dec rpx]
    exact q w _ (Ext.refl w) sr rfl
  · cases hg

/-! ### keys of dicts -/
def isKey : PV → Option Key
  | .int i => some (.inl i)
  | .str x => some (.inr x)
  | _ => none
def isKeyL : List PV → Option (List Key)
  | [] => some []
  | x :: xs => (isKey x).bind fun k => (isKeyL xs).map (k :: ·)
/-- a key: a number or a text, or a tuple of these -/
inductive KK where
  | k (x : Key) | t (xs : List Key)
def keyOf : PV → Option KK
  | .int i => some (.k (.inl i))
  | .str x => some (.k (.inr x))
  | .tup xs => (isKeyL xs).map .t
  | _ => none
theorem isKey_rep {K : PySem.W.Frag} {w : VW} {x : PV} {k : Key} {v : V} (h : isKey x = some k) (r : Rep K w x v) : v = kV k ∧ x = keyPV k := by
  unfold isKey at h
  split at h
  · cases h
    exact ⟨r, rfl⟩
  · cases h
    exact ⟨r, rfl⟩
  · cases h
theorem isKeyL_rep {K : PySem.W.Frag} {w : VW} : ∀ {xs : List PV} {ks : List Key} {vs : List V}, isKeyL xs = some ks → RepL K w xs vs → vs = ks.map kV ∧ xs = ks.map keyPV
  | [], _, vs, h, r => by
    cases h
    unfold RepL at r
    exact ⟨r, rfl⟩
  | x :: xs, ks, vs, h, r => by
    obtain ⟨k, h1, h⟩ := Option.bind_eq_some_iff.mp h
    obtain ⟨ks', h2, rfl⟩ := Option.map_eq_some_iff.mp h
    unfold RepL at r
    obtain ⟨v, r', rfl, a, b⟩ := r
    obtain ⟨e1, e2⟩ := isKey_rep h1 a
    obtain ⟨e3, e4⟩ := isKeyL_rep h2 b
    exact ⟨by rw [e1, e3]; rfl, by rw [e2, e4]; rfl⟩
theorem keyPV_isKey (k : Key) : isKey (keyPV k) = some k := by cases k <;> rfl
theorem keyPV_isKeyL : ∀ ks : List Key, isKeyL (ks.map keyPV) = some ks
  | [] => rfl
  | k :: ks => by
    show ((isKey (keyPV k)).bind fun k => (isKeyL (ks.map keyPV)).map (k :: ·)) = _
    rw [keyPV_isKey, keyPV_isKeyL ks]
    rfl
theorem keyPV_inj {a b : Key} (h : keyPV a = keyPV b) : a = b := by
  have := congrArg isKey h
  rw [keyPV_isKey, keyPV_isKey] at this
  exact Option.some.inj this
theorem keyPVL_inj {a b : List Key} (h : a.map keyPV = b.map keyPV) : a = b := by
  have := congrArg isKeyL h
  rw [keyPV_isKeyL, keyPV_isKeyL] at this
  exact Option.some.inj this
/-- equal keys -/
def keyEq : PV → PV → Bool
  | .int i, .int j => decide (i = j)
  | .str x, .str y => decide (x = y)
  | .tup xs, .tup ys => match isKeyL xs, isKeyL ys with
    | some a, some b => decide (a = b)
    | _, _ => false
  | _, _ => false
theorem keyEq_k (a b : Key) : keyEq (keyPV a) (keyPV b) = decide (a = b) := by
  cases a with
  | inl i => cases b with
    | inl j =>
      show decide (i = j) = _
      by_cases h : i = j
      · rw [decide_eq_true h, decide_eq_true (by rw [h])]
      · rw [decide_eq_false h, decide_eq_false fun q => h (Sum.inl.inj q)]
    | inr y =>
      show false = _
      rw [decide_eq_false fun q => by cases q]
  | inr x => cases b with
    | inl j =>
      show false = _
      rw [decide_eq_false fun q => by cases q]
    | inr y =>
      show decide (x = y) = _
      by_cases h : x = y
      · rw [decide_eq_true h, decide_eq_true (by rw [h])]
      · rw [decide_eq_false h, decide_eq_false fun q => h (Sum.inr.inj q)]
theorem keyEq_t (a b : List Key) : keyEq (.tup (a.map keyPV)) (.tup (b.map keyPV)) = decide (a = b) := by
  show (match isKeyL (a.map keyPV), isKeyL (b.map keyPV) with
    | some a, some b => decide (a = b)
    | _, _ => false) = _
  rw [keyPV_isKeyL, keyPV_isKeyL]
/-- the value at a key -/
def lookP (k : PV) : List PV → List PV → Option PV
  | x :: ks, y :: vs => if keyEq x k = true then some y else lookP k ks vs
  | _, _ => none
theorem lookP_k {K : PySem.W.Frag} {w : VW} {k : Key} : ∀ {kvs : List (Key × V)} {vs : List PV}, RepL K w vs (kvs.map (·.2)) →
    (match lookP (keyPV k) (kvs.map fun p => keyPV p.1) vs, valV kvs k with
      | some x, some v => Rep K w x v
      | none, none => True
      | _, _ => False)
  | [], vs, _ => by
    rw [valV_nil]
    show (match lookP (keyPV k) [] vs, (none : Option V) with
      | some x, some v => Rep K w x v
      | none, none => True
      | _, _ => False)
    unfold lookP
    trivial
  | p :: kvs, [], h => by
    unfold RepL at h
    cases h
  | p :: kvs, x :: vs, h => by
    unfold RepL at h
    obtain ⟨v, r, e, h1, h2⟩ := h
    have e' : p.2 :: kvs.map (·.2) = v :: r := e
    injection e' with ev er
    subst ev er
    show (match (if keyEq (keyPV p.1) (keyPV k) = true then some x else lookP (keyPV k) (kvs.map fun p => keyPV p.1) vs), valV (p :: kvs) k with
      | some x, some v => Rep K w x v
      | none, none => True
      | _, _ => False)
    rw [keyEq_k]
    by_cases hk : p.1 = k
    · rw [if_pos (decide_eq_true hk), valV_pos hk]
      exact h1
    · rw [if_neg (by rw [decide_eq_false hk]; exact Bool.false_ne_true), valV_neg hk]
      exact lookP_k h2
theorem lookP_t {K : PySem.W.Frag} {w : VW} {k : List Key} : ∀ {kvs : List (List Key × V)} {vs : List PV}, RepL K w vs (kvs.map (·.2)) →
    (match lookP (.tup (k.map keyPV)) (kvs.map fun p => PV.tup (p.1.map keyPV)) vs, valV kvs k with
      | some x, some v => Rep K w x v
      | none, none => True
      | _, _ => False)
  | [], vs, _ => by
    rw [valV_nil]
    show (match lookP (.tup (k.map keyPV)) [] vs, (none : Option V) with
      | some x, some v => Rep K w x v
      | none, none => True
      | _, _ => False)
    unfold lookP
    trivial
  | p :: kvs, [], h => by
    unfold RepL at h
    cases h
  | p :: kvs, x :: vs, h => by
    unfold RepL at h
    obtain ⟨v, r, e, h1, h2⟩ := h
    have e' : p.2 :: kvs.map (·.2) = v :: r := e
    injection e' with ev er
    subst ev er
    show (match (if keyEq (.tup (p.1.map keyPV)) (.tup (k.map keyPV)) = true then some x else lookP (.tup (k.map keyPV)) (kvs.map fun p => PV.tup (p.1.map keyPV)) vs), valV (p :: kvs) k with
      | some x, some v => Rep K w x v
      | none, none => True
      | _, _ => False)
    rw [keyEq_t]
    by_cases hk : p.1 = k
    · rw [if_pos (decide_eq_true hk), valV_pos hk]
      exact h1
    · rw [if_neg (by rw [decide_eq_false hk]; exact Bool.false_ne_true), valV_neg hk]
      exact lookP_t h2
/-- may the key be asked of a dict: of its kind -/
def kindOk (t : Bool) (k : PV) : Bool := match k with
  | .int _ => !t
  | .str _ => !t
  | .tup xs => t && (isKeyL xs).isSome
  | _ => false
end
end Dn

/-! Dn 9: subscripts, slices, in, stores. -/
namespace Dn
open PySem PySem.Spec PyProof.Rows L2

theorem atI_map {α β : Type} (f : α → β) (xs : List α) (i : Int) : atI (xs.map f) i = (atI xs i).map f := by
  unfold atI
  rw [List.length_map]
  cases ixN xs.length i with
  | none => rfl
  | some j => simp [List.getElem?_map]
theorem RepL.atI {K : PySem.W.Frag} {w : VW} {xs : List PV} {vs : List V} {i : Int} {x : PV} (h : RepL K w xs vs) (e : L2.atI xs i = some x) : ∃ v, L2.atI vs i = some v ∧ Rep K w x v := by
  unfold L2.atI at e ⊢
  rw [← h.length]
  obtain ⟨j, h1, h2⟩ := Option.bind_eq_some_iff.mp e
  rw [h1]
  exact h.get h2
/-- one item -/
def ixP : PV → PV → Option PV
  | .lst xs, .int i => atI xs i
  | .tup xs, .int i => atI xs i
  | .dct t ks vs, k => if kindOk t k = true then lookP k ks vs else none
  | _, _ => none
section
variable {K : PySem.W.Frag} {w : VW}
/-- what the dict holds at a key -/
theorem dget_of {t : Bool} {ks vs : List PV} {a : Addr} {u : HO} {k : PV} {y : V} (h : Rd w.H a u) (d : DRep (RepL K w) t ks vs u) (hk : kindOk t k = true) (ry : RepW K w k y) :
    ∃ o, DGet w.H a y o ∧ (match lookP k ks vs, o with
      | some x, some v => Rep K w x v
      | none, none => True
      | _, _ => False) := by
  rcases d with ⟨rfl, kvs, rfl, rfl, r⟩ | ⟨rfl, kvs, rfl, rfl, r⟩
  · have hk' : ∃ c : Key, k = keyPV c := by
      unfold kindOk at hk
      split at hk
      · exact ⟨.inl _, rfl⟩
      · exact ⟨.inr _, rfl⟩
      · cases hk
      · cases hk
    obtain ⟨c, rfl⟩ := hk'
    have ey : y = kV c := by
      cases c with
      | inl i => exact ry
      | inr x => exact ry
    exact ⟨valV kvs c, .inl ⟨kvs, c, h, ey, rfl⟩, lookP_k r⟩
  · unfold kindOk at hk
    split at hk
    · cases hk
    · cases hk
    · rename_i xs
      have hx : (isKeyL xs).isSome = true := hk
      obtain ⟨c, hc⟩ := Option.isSome_iff_exists.mp hx
      have ry' : Rep K w (.tup xs) y := ry
      unfold Rep at ry'
      obtain ⟨b, us, rfl, hb, hr⟩ := ry'
      obtain ⟨rfl, rfl⟩ := isKeyL_rep hc hr
      exact ⟨valV kvs c, .inr ⟨kvs, c, b, h, rfl, hb, rfl⟩, lookP_t r⟩
    · cases hk
end
section
variable {X : Cx}
theorem ix_ixP (hu : X.A.units + 1 < cLine) : IxR X (r2 X.K ixP) := by
  intro value slice pins s σ H x y v u Q I rx ry ⟨w, S, px, py, z, hH, sr, rpx, rpy, hg, q⟩ hs
  subst hH
  unfold ixP at hg
  split at hg
  · obtain ⟨p, vs, rfl, hp, hr⟩ := rpx
    obtain ⟨zv, hz, rz⟩ := hr.atI hg
    exact ix_list value slice pins s σ _ _ _ v u Q I rx ry ⟨p, vs, _, zv, rfl, rpy, SqL.of hp, hz, q w zv (Ext.refl w) sr rz⟩ hs
  · rename_i xs i
    have rpx' : Rep X.K w (.tup xs) x := rpx
    unfold Rep at rpx'
    obtain ⟨p, vs, rfl, hp, hr⟩ := rpx'
    obtain ⟨zv, hz, rz⟩ := hr.atI hg
    exact ix_tup value slice pins s σ _ _ _ v u Q I rx ry ⟨p, vs, _, zv, rfl, rpy, SqT.of hp, hz, q w zv (Ext.refl w) sr rz⟩ hs
  · rename_i t ks vs
    split at hg
    · rename_i hk
      obtain ⟨a, uo, rfl, hrd, hd⟩ := rpx
      obtain ⟨o, hget, hm⟩ := dget_of hrd hd hk rpy
      rw [hg] at hm
      cases o with
      | none => exact hm.elim
      | some zv =>
        cases rx
        exact tail_any (ops := [.ref a, u]) (dict_typeIs I hget) PySem.F.slot_dict_getitem.lookup (d_getItem hu I hget ry fun w' s' I' r' => ⟨zv, w.H, I', r', q w zv (Ext.refl w) sr hm⟩) hs
    · cases hg
  · cases hg
theorem de_ix {a b : Expr} {ma mb : EM RV} {pos : Pos} (hu : X.A.units + 1 < cLine) (ha : PE X a (rE X.K ma)) (hb : PE X b (rE X.K mb)) (hs : PlainIx b) : PE X (.Subscript a b pos) (rE X.K (e2 ixP ma mb)) :=
  PE.mono (pe_ix (ix_ixP hu) ha hb hs) fun σ H Q h => two_read h

/-! ### in -/
def anyP (x : PV) (xs : List PV) : Bool := xs.any fun y => eqvP y x
/-- x in c -/
def inB (x : PV) : PV → Option Bool
  | .lst xs => if plainL xs && decide (depL xs ≤ 50) && dataOk x then some (anyP x xs) else none
  | .tup xs => if plainL xs && decide (depL xs ≤ 50) && dataOk x then some (anyP x xs) else none
  | .dct t ks vs => if kindOk t x = true then some (lookP x ks vs).isSome else none
  | _ => none
def inP (x c : PV) : Option PV := (inB x c).map .bl
def ninP (x c : PV) : Option PV := (inB x c).map fun b => .bl (!b)
theorem any_toD (x : PV) : ∀ xs : List PV, ((toDL xs).any fun y => PyData.eqv y (toD x)) = anyP x xs
  | [] => rfl
  | y :: xs => by
    show (PyData.eqv (toD y) (toD x) || (toDL xs).any fun y => PyData.eqv y (toD x)) = _
    rw [any_toD x xs]
    rfl
theorem in_core {pins : List (Addr × Obj)} {s : Shared} {σ : L2.St} {w : VW} {px pc : PV} {x c : V} {v u : Value} {b : Bool} (hu : X.A.units + 64 < cLine) (I : Inv X pins σ w.H s) (rx : RelV x v) (rc : RelV c u) (rpx : RepW X.K w px x) (rpc : RepW X.K w pc c) (hg : inB px pc = some b) :
    (∀ {Q : Value → Shared → Prop}, (∀ s', Inv X pins σ w.H s' → Q (.bool b) s') → wpAny (model X.prog X.w) X.A (compareOp .In v u) Q X.xe s) ∧
    (∀ {Q : Value → Shared → Prop}, (∀ s', Inv X pins σ w.H s' → Q (.bool (!b)) s') → wpAny (model X.prog X.w) X.A (compareOp .NotIn v u) Q X.xe s) := by
  unfold inB at hg
  split at hg
  · rename_i xs
    split at hg
    · rename_i hz
      cases hg
      rw [Bool.and_eq_true, Bool.and_eq_true, decide_eq_true_eq] at hz
      obtain ⟨⟨z1, z2⟩, z3⟩ := hz
      obtain ⟨p1, d1, e1⟩ := dataOk_of z3
      obtain ⟨as, r1⟩ := RepW.reads I p1 rpx rx
      have pl : plainP (.lst xs) = true := by unfold plainP; exact z1
      obtain ⟨bs, r2⟩ := RepW.reads I pl rpc rc
      have ed : toD (.lst xs) = .list (toDL xs) := by unfold toD; rfl
      rw [ed] at r2
      have hd : X.A.units + 1 + min (PyData.depthAll (toDL xs)) (toD px).depth < cLine := by
        have := Nat.min_le_right (PyData.depthAll (toDL xs)) (toD px).depth
        omega
      refine ⟨fun k => ?_, fun k => ?_⟩
      · refine SeqAt.in_list_data r2 r1 (plain_toDL xs z1) d1 hd ?_
        rw [any_toD]
        exact k _ I
      · refine SeqAt.notIn_list_data r2 r1 (plain_toDL xs z1) d1 hd ?_
        rw [any_toD]
        exact k _ I
    · cases hg
  · rename_i xs
    split at hg
    · rename_i hz
      cases hg
      rw [Bool.and_eq_true, Bool.and_eq_true, decide_eq_true_eq] at hz
      obtain ⟨⟨z1, z2⟩, z3⟩ := hz
      obtain ⟨p1, d1, e1⟩ := dataOk_of z3
      obtain ⟨as, r1⟩ := RepW.reads I p1 rpx rx
      have pl : plainP (.tup xs) = true := by unfold plainP; exact z1
      obtain ⟨bs, r2⟩ := RepW.reads I pl rpc rc
      have ed : toD (.tup xs) = .tuple (toDL xs) := by unfold toD; rfl
      rw [ed] at r2
      have hd : X.A.units + 1 + min (PyData.depthAll (toDL xs)) (toD px).depth < cLine := by
        have := Nat.min_le_right (PyData.depthAll (toDL xs)) (toD px).depth
        omega
      refine ⟨fun k => ?_, fun k => ?_⟩
      · refine SeqAt.in_tuple_data r2 r1 (plain_toDL xs z1) d1 hd ?_
        rw [any_toD]
        exact k _ I
      · refine SeqAt.notIn_tuple_data r2 r1 (plain_toDL xs z1) d1 hd ?_
        rw [any_toD]
        exact k _ I
    · cases hg
  · rename_i t ks vs
    split at hg
    · rename_i hk
      cases hg
      obtain ⟨a, uo, rfl, hrd, hd⟩ := rpc
      obtain ⟨o, hget, hm⟩ := dget_of hrd hd hk rpx
      cases rc
      have eo : o.isSome = (lookP px ks vs).isSome := by
        cases o <;> cases h : lookP px ks vs <;> rw [h] at hm <;> first | rfl | exact hm.elim
      have hu1 : X.A.units + 1 < cLine := by omega
      rw [← eo]
      exact ⟨fun k => d_in hu1 I hget rx fun s' I' => k s' I', fun k => d_notIn hu1 I hget rx fun s' I' => k s' I'⟩
    · cases hg
  · cases hg
theorem op_inP (hu : X.A.units + 64 < cLine) : OpR X (compareOp .In) (r2 X.K inP) := by
  intro pins s σ H x y v u Q I rx ry ⟨w, S, px, py, z, hH, sr, rpx, rpy, hg, q⟩
  subst hH
  obtain ⟨b, hb, rfl⟩ := Option.map_eq_some_iff.mp hg
  exact (in_core hu I rx ry rpx rpy hb).1 fun s' I' => ⟨.bl b, w.H, I', rfl, q w _ (Ext.refl w) sr rfl⟩
theorem op_ninP (hu : X.A.units + 64 < cLine) : OpR X (compareOp .NotIn) (r2 X.K ninP) := by
  intro pins s σ H x y v u Q I rx ry ⟨w, S, px, py, z, hH, sr, rpx, rpy, hg, q⟩
  subst hH
  obtain ⟨b, hb, rfl⟩ := Option.map_eq_some_iff.mp hg
  exact (in_core hu I rx ry rpx rpy hb).2 fun s' I' => ⟨.bl (!b), w.H, I', rfl, q w _ (Ext.refl w) sr rfl⟩

/-! ### slices -/
def cutP (xs : List PV) (lo hi : Option Int) : List PV := (xs.drop (HT.sIx xs.length 0 lo)).take (HT.sIx xs.length xs.length hi - HT.sIx xs.length 0 lo)
def slP : PV → Option Int → Option Int → Option PV
  | .lst xs, lo, hi => some (.lst (cutP xs lo hi))
  | .tup xs, lo, hi => some (.tup (cutP xs lo hi))
  | .scr ns, lo, hi => some (.lst (cutP (ns.map PV.int) lo hi))
  | _, _, _ => none
theorem RepL.cut {K : PySem.W.Frag} {w : VW} {xs : List PV} {vs : List V} (h : RepL K w xs vs) (lo hi : Option Int) : RepL K w (cutP xs lo hi) (cutV vs lo hi) := by
  unfold cutP cutV
  rw [← h.length]
  exact (h.drop _).take _
theorem RepL.ints {K : PySem.W.Frag} {w : VW} : ∀ ns : List Int, RepL K w (ns.map PV.int) (ns.map V.int)
  | [] => by unfold RepL; rfl
  | n :: ns => by
    show RepL K w (.int n :: ns.map PV.int) (.int n :: ns.map V.int)
    unfold RepL
    exact ⟨_, _, rfl, rfl, RepL.ints ns⟩
abbrev OM := EM (Option Int)
def oNo : OM := fun _ S => some (none, S)
def oSome (m : EM RV) : OM := fun r S => (m r S).bind fun p => match p.1 with
  | .v (.int i) => some (some i, p.2)
  | _ => none
def rO (K : PySem.W.Frag) (m : OM) : TO := fun σ H Q => ∃ w S r, w.H = H ∧ StR K w S ∧ LoR K w r σ ∧ ∃ x S', m r S = some (x, S') ∧ ∀ w', Ext w w' → StR K w' S' → Q x w'.H
theorem PO.mono {e : Option Expr} {t t' : TO} (h : PO X e t) (f : ∀ σ H Q, t' σ H Q → t σ H Q) : PO X e t' := ⟨fun pins s σ H Q I q => h.run pins s σ H Q I (f σ H Q q)⟩
theorem do_none : PO X none (rO X.K oNo) := PO.mono po_none fun σ H Q h => by
  obtain ⟨w, S, r, rfl, s, l, x, S', h, q⟩ := h
  cases h
  exact q w (Ext.refl w) s
theorem do_some {e : Expr} {m : EM RV} (h : PE X e (rE X.K m)) : PO X (some e) (rO X.K (oSome m)) := PO.mono (po_some h) fun σ H Q h => by
  obtain ⟨w, S, r, rfl, s, l, x, S', h, q⟩ := h
  obtain ⟨⟨y, S1⟩, g1, h⟩ := Option.bind_eq_some_iff.mp h
  cases y with
  | ref n => cases h
  | v y => cases y with
    | int i =>
      cases h
      exact ⟨w, S, r, rfl, s, l, _, _, g1, fun w1 v e1 s1 rv => ⟨i, rv, q w1 e1 s1⟩⟩
    | _ => cases h
def eSl (ma : EM RV) (ml mh : OM) : EM RV := fun r S => (ma r S).bind fun p => (ml r p.2).bind fun l => (mh r l.2).bind fun h => (peek h.2 p.1).bind fun x => (slP x l.1 h.1).map fun z => (.v z, h.2)
def rSl (K : PySem.W.Frag) : V → Option Int → Option Int → Hp → VK → Prop := fun x lo hi H Q => ∃ w S px z, w.H = H ∧ StR K w S ∧ RepW K w px x ∧ slP px lo hi = some z ∧ ∀ w' v, Ext w w' → StR K w' S → Rep K w' z v → Q v w'.H
theorem sl_slP : SlR X (rSl X.K) := by
  intro pins s σ H x v vl vu lo hi sl Q I rx hs pl pu ⟨w, S, px, z, hH, sr, rpx, hg, q⟩
  subst hH
  unfold slP at hg
  split at hg
  · cases hg
    obtain ⟨a, vs, rfl, ha, hr⟩ := rpx
    refine sl_list pins s σ _ _ v vl vu _ _ sl Q I rx hs pl pu ⟨a, vs, rfl, SqL.of ha, fun p hp => ?_⟩
    obtain ⟨w2, hw, e2, s2, r2⟩ := mk_lst sr hp (hr.cut lo hi)
    rw [← hw]
    exact q w2 _ e2 s2 r2
  · rename_i xs
    cases hg
    have rpx' : Rep X.K w (.tup xs) x := rpx
    unfold Rep at rpx'
    obtain ⟨a, vs, rfl, ha, hr⟩ := rpx'
    refine sl_tupA pins s σ _ _ v vl vu _ _ sl Q I rx hs pl pu ⟨a, vs, rfl, SqT.of ha, fun hw => ?_, fun _ p hp => ?_⟩
    · refine q w _ (Ext.refl w) sr ?_
      unfold Rep
      refine ⟨a, vs, rfl, ha, ?_⟩
      have : cutP xs lo hi = xs := by
        unfold cutP
        rw [hr.length, hw.1, hw.2]
        rw [← hr.length]
        simp
      rw [this]
      exact hr
    · obtain ⟨w2, hw, e2, s2, r2⟩ := mk_tup sr hp (hr.cut lo hi)
      rw [← hw]
      exact q w2 _ e2 s2 r2
  · rename_i ns
    cases hg
    have rpx' : Rep X.K w (.scr ns) x := rpx
    unfold Rep at rpx'
    obtain ⟨a, rfl, ha⟩ := rpx'
    refine sl_list pins s σ _ _ v vl vu _ _ sl Q I rx hs pl pu ⟨a, _, rfl, ha.seq, fun p hp => ?_⟩
    obtain ⟨w2, hw, e2, s2, r2⟩ := mk_lst sr hp ((RepL.ints (K := X.K) (w := w) ns).cut lo hi)
    rw [← hw]
    exact q w2 _ e2 s2 r2
  · cases hg
theorem de_sl {a : Expr} {lo hi : Option Expr} {ma : EM RV} {ml mh : OM} {pos p2 : Pos} (ha : PE X a (rE X.K ma)) (hl : PO X lo (rO X.K ml)) (hh : PO X hi (rO X.K mh)) : PE X (.Subscript a (.Slice lo hi none p2) pos) (rE X.K (eSl ma ml mh)) :=
  PE.mono (pe_slice sl_slP ha hl hh) fun σ H Q h => by
    obtain ⟨w, S, r, rfl, s, l, x, S', h, q⟩ := h
    obtain ⟨⟨xa, S1⟩, g1, h⟩ := Option.bind_eq_some_iff.mp h
    obtain ⟨⟨lo, S2⟩, g2, h⟩ := Option.bind_eq_some_iff.mp h
    obtain ⟨⟨hi, S3⟩, g3, h⟩ := Option.bind_eq_some_iff.mp h
    obtain ⟨px, g4, h⟩ := Option.bind_eq_some_iff.mp h
    obtain ⟨z, g5, h⟩ := Option.map_eq_some_iff.mp h
    cases h
    refine ⟨w, S, r, rfl, s, l, xa, S1, g1, fun w1 v e1 s1 rv => ?_⟩
    refine ⟨w1, S1, r, rfl, s1, l.ext s e1, lo, S2, g2, fun w2 e2 s2 => ?_⟩
    refine ⟨w2, S2, r, rfl, s2, (l.ext s e1).ext s1 e2, hi, _, g3, fun w3 e3 s3 => ?_⟩
    exact ⟨w3, _, px, z, rfl, s3, (RR.ext s2 e3 (RR.ext s1 e2 rv)).toW s3 g4, g5, fun w4 u e4 s4 ru => q w4 u (((e1.trans e2).trans e3).trans e4) s4 ru⟩
end
end Dn

/-! Dn 10: stores into lists and dicts; builtins by values. -/
namespace Dn
open PySem PySem.Spec PyProof.Rows L2

/-! ### o[i] = v -/
def hasP (k : PV) (ks : List PV) : Bool := ks.any fun y => keyEq y k
def setV (k x : PV) : List PV → List PV → List PV
  | y :: ks, z :: vs => (if keyEq y k = true then x else z) :: setV k x ks vs
  | _, _ => []
def putP (k x : PV) (ks vs : List PV) : List PV × List PV := if hasP k ks = true then (ks, setV k x ks vs) else (ks ++ [k], vs ++ [x])
theorem put_gen {κ : Type} [DecidableEq κ] {K : PySem.W.Frag} {w : VW} (f : κ → PV) (hf : ∀ a b, keyEq (f a) (f b) = decide (a = b)) {kvs : List (κ × V)} {vs : List PV} {k : κ} {x : PV} {v : V} (r : RepL K w vs (kvs.map (·.2))) (rx : Rep K w x v) :
    (putP (f k) x (kvs.map fun p => f p.1) vs).1 = (putK kvs k v).map (fun p => f p.1) ∧ RepL K w (putP (f k) x (kvs.map fun p => f p.1) vs).2 ((putK kvs k v).map (·.2)) := by
  have hany : hasP (f k) (kvs.map fun p => f p.1) = kvs.any fun kv => decide (kv.1 = k) := by
    unfold hasP
    rw [List.any_map]
    congr 1
    funext p
    exact hf p.1 k
  unfold putP putK
  rw [hany]
  split
  · have hset : ∀ {kvs : List (κ × V)} {vs : List PV}, RepL K w vs (kvs.map (·.2)) → RepL K w (setV (f k) x (kvs.map fun p => f p.1) vs) ((kvs.map fun kv => if kv.1 = k then (kv.1, v) else kv).map (·.2)) := by
      intro kvs
      induction kvs with
      | nil =>
        intro vs r
        cases vs with
        | nil => exact r
        | cons y ys =>
          unfold RepL at r
          obtain ⟨_, _, e, _⟩ := r
          cases e
      | cons p kvs ih =>
        intro vs r
        cases vs with
        | nil =>
          unfold RepL at r
          cases r
        | cons y ys =>
          unfold RepL at r
          obtain ⟨v0, r0, e, h1, h2⟩ := r
          have e' : p.2 :: kvs.map (·.2) = v0 :: r0 := e
          injection e' with ev er
          subst ev er
          show RepL K w ((if keyEq (f p.1) (f k) = true then x else y) :: setV (f k) x (kvs.map fun p => f p.1) ys) ((if p.1 = k then (p.1, v) else p).2 :: (kvs.map fun kv => if kv.1 = k then (kv.1, v) else kv).map (·.2))
          unfold RepL
          refine ⟨_, _, rfl, ?_, ih h2⟩
          rw [hf]
          by_cases hk : p.1 = k
          · rw [if_pos (decide_eq_true hk), if_pos hk]
            exact rx
          · rw [if_neg (by rw [decide_eq_false hk]; exact Bool.false_ne_true), if_neg hk]
            exact h1
    refine ⟨?_, hset r⟩
    show (kvs.map fun p => f p.1) = _
    rw [List.map_map]
    apply List.map_congr_left
    intro p _
    show f p.1 = f (if p.1 = k then (p.1, v) else p).1
    split <;> rfl
  · refine ⟨by simp, ?_⟩
    rw [List.map_append]
    exact r.append (RepL.one rx)
def wIn (x : PV) : SO → PV → Option SO
  | .lst xs, .int k => (ixN xs.length k).map fun j => .lst (xs.set j x)
  | .dct t ks vs, k => if kindOk t k && smallL (vs.length + 1) then some (.dct t (putP k x ks vs).1 (putP k x ks vs).2) else none
  | _, _ => none
def wSet : WM := fun o i x S => match o, i, x with
  | .ref n, .v i, .v x => (S[n]?).bind fun ob => (wIn x ob i).map fun o' => S.set n o'
  | _, _, _ => none
section
variable {X : Cx}
theorem PSet.of_or {t1 t2 t : TSet} (h1 : PSet X t1) (h2 : PSet X t2) (h : ∀ o i v H Q, t o i v H Q → t1 o i v H Q ∨ t2 o i v H Q) : PSet X t := by
  intro pins s σ H o i v ov iv u Q I ro ri rv q
  rcases h o i v H Q q with q | q
  · exact h1 pins s σ H o i v ov iv u Q I ro ri rv q
  · exact h2 pins s σ H o i v ov iv u Q I ro ri rv q
theorem ps_wSet (hu : X.A.units + 1 < cLine) : PSet X (rW X.K wSet) := PSet.of_or set_list (set_dict hu) fun o i v H Q h => by
  obtain ⟨w, S, xo, xi, xv, rfl, sr, ro, ri, rv, S', hg, q⟩ := h
  unfold wSet at hg
  split at hg
  · rename_i n i x
    obtain ⟨ob, ho, hg'⟩ := Option.bind_eq_some_iff.mp hg
    clear hg
    obtain ⟨a, ha, rfl⟩ := ro
    obtain ⟨u, hu, hob⟩ := sr.ob n a ob ha ho
    obtain ⟨o', hin, rfl⟩ := Option.map_eq_some_iff.mp hg'
    clear hg'
    unfold wIn at hin
    split at hin
    · rename_i xs k
      obtain ⟨j, hj, rfl⟩ := Option.map_eq_some_iff.mp hin
      obtain ⟨vs, rfl, hr⟩ := hob
      refine .inl ⟨a, vs, k, j, rfl, ri, hu, by rw [← hr.length]; exact hj, ?_⟩
      obtain ⟨w', hw, e', s'⟩ := StR.write (o' := .lst (xs.set j x)) (u := .lst (vs.set j v)) sr ha ho ⟨_, rfl, hr.set j rv⟩
      rw [← hw]
      exact q w' e' s'
    · rename_i t ks vs
      split at hin
      · rename_i hz
        cases hin
        rw [Bool.and_eq_true] at hz
        obtain ⟨hk, hl⟩ := hz
        have hl' := smallL_le hl
        rcases hob with ⟨rfl, kvs, rfl, rfl, hr⟩ | ⟨rfl, kvs, rfl, rfl, hr⟩
        · have hlen : kvs.length < sizeLine := by
            have := hr.length
            rw [List.length_map] at this
            omega
          obtain ⟨c, rfl, ec⟩ : ∃ c : Key, i = keyPV c ∧ _ = kV c := by
            have ri' : Rep X.K w i _ := ri
            unfold kindOk at hk
            split at hk
            · exact ⟨.inl _, rfl, ri'⟩
            · exact ⟨.inr _, rfl, ri'⟩
            · cases hk
            · cases hk
          obtain ⟨g1, g2⟩ := put_gen keyPV keyEq_k (k := c) hr rv
          obtain ⟨w', hw, e', s'⟩ := StR.write (o' := .dct false (putP (keyPV c) x (kvs.map fun p => keyPV p.1) vs).1 (putP (keyPV c) x (kvs.map fun p => keyPV p.1) vs).2) (u := .dK (putK kvs c v)) sr ha ho (.inl ⟨rfl, _, rfl, g1, g2⟩)
          refine .inr ⟨a, upd w.H a (.dK (putK kvs c v)), rfl, .inl ⟨kvs, c, hu, ec, hlen, rfl⟩, ?_⟩
          rw [← hw]
          exact q w' e' s'
        · have hlen : kvs.length < sizeLine := by
            have := hr.length
            rw [List.length_map] at this
            omega
          unfold kindOk at hk
          split at hk
          · cases hk
          · cases hk
          · rename_i xs
            have hx : (isKeyL xs).isSome = true := hk
            obtain ⟨c, hc⟩ := Option.isSome_iff_exists.mp hx
            have ri' : Rep X.K w (.tup xs) _ := ri
            unfold Rep at ri'
            obtain ⟨b, us, rfl, hb, hrs⟩ := ri'
            obtain ⟨rfl, rfl⟩ := isKeyL_rep hc hrs
            obtain ⟨g1, g2⟩ := put_gen (fun c : List Key => PV.tup (c.map keyPV)) keyEq_t (k := c) hr rv
            obtain ⟨w', hw, e', s'⟩ := StR.write (o' := .dct true (putP (.tup (c.map keyPV)) x (kvs.map fun p => PV.tup (p.1.map keyPV)) vs).1 (putP (.tup (c.map keyPV)) x (kvs.map fun p => PV.tup (p.1.map keyPV)) vs).2) (u := .dT (putK kvs c v)) sr ha ho (.inr ⟨rfl, _, rfl, g1, g2⟩)
            refine .inr ⟨a, upd w.H a (.dT (putK kvs c v)), rfl, .inr ⟨kvs, c, b, hu, rfl, hb, hlen, rfl⟩, ?_⟩
            rw [← hw]
            exact q w' e' s'
          · cases hk
      · cases hin
    · cases hin
  · cases hg
/-- o[i], for o[i] op= e: of a list or a dict -/
def gIn : PV → RV → Option RV
  | .lst xs, .v (.int i) => (atI xs i).map .v
  | .dct t ks vs, .v k => if kindOk t k = true then (lookP k ks vs).map .v else none
  | _, _ => none
def gIx : IM := fun o i S => (peek S o).bind fun x => gIn x i
theorem pg_gIx (hu : X.A.units + 1 < cLine) : PGet X (rI2 X.K gIx) := by
  intro pins s σ H o i ov iv Q I ro ri ⟨w, S, xo, xi, hH, sr, rxo, rxi, z, hg, q⟩
  subst hH
  obtain ⟨x, hx, hg'⟩ := Option.bind_eq_some_iff.mp hg
  clear hg
  have hg := hg'
  clear hg'
  have rx := rxo.toW sr hx
  unfold gIn at hg
  split at hg
  · rename_i xs k
    obtain ⟨y, hy, rfl⟩ := Option.map_eq_some_iff.mp hg
    obtain ⟨p, vs, rfl, hp, hr⟩ := rx
    obtain ⟨zv, hz, rz⟩ := hr.atI hy
    obtain rfl : i = .int k := rxi
    cases ro
    obtain ⟨t, rfl⟩ := ri
    obtain ⟨its, r, pl, hzl⟩ := I.list (SqL.of (K := X.K) hp)
    obtain ⟨j, h1, h2, h3, h4, h5⟩ := atI_get hz
    obtain ⟨wv, ew, rw'⟩ := r.get h2
    have hl := r.length
    have hn := line63
    have fin : EP X pins σ Q wv s := ⟨zv, w.H, I, rw', q w zv (Ext.refl w) sr rz⟩
    by_cases h0 : 0 ≤ k
    · have hj : k.toNat = j := by
        rw [seqIndex_of h0 h5] at h1
        exact Option.some.inj h1
      exact wpAny_getItem_list pl.isList h0 (by omega) (by rw [hj]; simpa using ew) fin
    · have hj : (k + (its.toArray.size : Int)).toNat = j := by
        rw [seqIndex_neg (by omega) h4] at h1
        rw [List.size_toArray, ← hl]
        exact Option.some.inj h1
      exact wpAny_getItem_list_neg pl.isList (by omega) (by rw [List.size_toArray] <;> omega) (by omega) (by rw [hj]; simpa using ew) fin
  · rename_i t ks vs k
    split at hg
    · rename_i hk
      obtain ⟨y, hy, rfl⟩ := Option.map_eq_some_iff.mp hg
      obtain ⟨a, uo, rfl, hrd, hd⟩ := rx
      obtain ⟨o', hget, hm⟩ := dget_of hrd hd hk (Rep.toW rxi)
      rw [hy] at hm
      cases o' with
      | none => exact hm.elim
      | some zv =>
        cases ro
        exact d_getItem hu I hget ri fun w' s' I' r' => ⟨zv, w.H, I', r', q w zv (Ext.refl w) sr hm⟩
    · cases hg
  · cases hg
def iaddP : PV → PV → Option PV
  | .int i, .int j => some (.int (i + j))
  | _, _ => none
theorem ip_addP : PIp X .Add (r2 X.K iaddP) := by
  intro pins s σ H x y v u Q I rx ry ⟨w, S, px, py, z, hH, sr, rpx, rpy, hg, q⟩
  subst hH
  unfold iaddP at hg
  split at hg
  · cases hg
    exact ip_add pins s σ _ _ _ v u Q I rx ry ⟨_, _, rpx, rpy, q w _ (Ext.refl w) sr rfl⟩
  · cases hg
theorem ip_subP : PIp X .Sub (r2 X.K subP) := iop_subP
end

/-! ### builtins -/
def rB (K : PySem.W.Frag) (c : CM) : List V → Hp → VK → Prop := fun vs H Q => ∃ w S xs, w.H = H ∧ StR K w S ∧ RRL K w xs vs ∧ ∃ y S', c xs S = some (y, S') ∧ ∀ w' v, Ext w w' → StR K w' S' → RR K w' y v → Q v w'.H
def eB (c : CM) (ms : EM (List RV)) : EM RV := fun r S => (ms r S).bind fun p => c p.1 p.2
theorem b_read {K : PySem.W.Frag} {c : CM} {ms : EM (List RV)} {σ : L2.St} {H : Hp} {Q : VK} (h : rE K (eB c ms) σ H Q) : rA K ms σ H fun vs H1 => rB K c vs H1 Q := by
  obtain ⟨w, S, r, rfl, s, l, y, S', h, q⟩ := h
  obtain ⟨⟨xs, S1⟩, h1, h⟩ := Option.bind_eq_some_iff.mp h
  exact ⟨w, S, r, rfl, s, l, xs, S1, h1, fun w1 vs e1 s1 rv => ⟨w1, S1, xs, rfl, s1, rv, y, S', h, fun w2 v e2 => q w2 v (e1.trans e2)⟩⟩
/-- the arguments as they are read -/
def peekL (S : Sto) : List RV → Option (List PV)
  | [] => some []
  | x :: xs => (peek S x).bind fun y => (peekL S xs).map (y :: ·)
def RepWL (K : PySem.W.Frag) (w : VW) : List PV → List V → Prop
  | [], vs => vs = []
  | x :: xs, vs => ∃ v r, vs = v :: r ∧ RepW K w x v ∧ RepWL K w xs r
theorem RRL.toW {K : PySem.W.Frag} {w : VW} {S : Sto} (s : StR K w S) : ∀ {xs : List RV} {ys : List PV} {vs : List V}, peekL S xs = some ys → RRL K w xs vs → RepWL K w ys vs
  | [], _, _, h, r => by
    cases h
    exact r
  | x :: xs, ys, vs, h, r => by
    obtain ⟨y, h1, h⟩ := Option.bind_eq_some_iff.mp h
    obtain ⟨zs, h2, rfl⟩ := Option.map_eq_some_iff.mp h
    obtain ⟨v, r', rfl, a, b⟩ := r
    exact ⟨v, r', rfl, a.toW s h1, RRL.toW s h2 b⟩
def bP (g : List PV → Option PV) : CM := fun xs S => (peekL S xs).bind fun ys => (g ys).map fun z => (.v z, S)
/-- .. its list is an object of the store -/
def bM (g : List PV → Option PV) : CM := fun xs S => (peekL S xs).bind fun ys => (g ys).bind fun z => match z with
  | .lst zs => some (.ref S.length, S ++ [.lst zs])
  | _ => none
def rP (K : PySem.W.Frag) (g : List PV → Option PV) : List V → Hp → VK → Prop := fun vs H Q => ∃ w S ys z, w.H = H ∧ StR K w S ∧ RepWL K w ys vs ∧ g ys = some z ∧ ∀ w' v, Ext w w' → StR K w' S → Rep K w' z v → Q v w'.H
/-- a builtin whose list is new -/
def rPN (K : PySem.W.Frag) (g : List PV → Option PV) : List V → Hp → VK → Prop := fun vs H Q => ∃ w S ys zs, w.H = H ∧ StR K w S ∧ RepWL K w ys vs ∧ g ys = some (.lst zs) ∧ ∀ p us, w.H p = none → RepL K w zs us → Q (.ref p) (upd w.H p (.lst us))
section
variable {X : Cx} {f : Value} {g : List PV → Option PV}
theorem CallR.mono {r r' : List V → Hp → VK → Prop} (h : CallR X f r) (m : ∀ xs H Q, r' xs H Q → r xs H Q) : CallR X f r' := fun pins s σ H xs us Q I rs q => h pins s σ H xs us Q I rs (m xs H Q q)
theorem cr_P (h : CallR X f (rP X.K g)) : CallR X f (rB X.K (bP g)) := CallR.mono h fun xs H Q q => by
  obtain ⟨w, S, ys, rfl, s, r, y, S', hg, q⟩ := q
  obtain ⟨zs, h1, hg⟩ := Option.bind_eq_some_iff.mp hg
  obtain ⟨z, h2, hg⟩ := Option.map_eq_some_iff.mp hg
  cases hg
  exact ⟨w, _, zs, z, rfl, s, r.toW s h1, h2, q⟩
theorem cr_N (h : CallR X f (rPN X.K g)) (hg : ∀ ys z, g ys = some z → ∃ zs, z = .lst zs) : CallR X f (rB X.K (bP g)) := CallR.mono h fun xs H Q q => by
  obtain ⟨w, S, ys, rfl, s, r, y, S', hq, q⟩ := q
  obtain ⟨zs, h1, hq⟩ := Option.bind_eq_some_iff.mp hq
  obtain ⟨z, h2, hq⟩ := Option.map_eq_some_iff.mp hq
  cases hq
  obtain ⟨zs', rfl⟩ := hg _ _ h2
  refine ⟨w, _, zs, zs', rfl, s, r.toW s h1, h2, fun p us hp ru => ?_⟩
  obtain ⟨w2, hw, e2, s2, r2⟩ := mk_lst s hp ru
  rw [← hw]
  exact q w2 _ e2 s2 r2
theorem cr_NM (h : CallR X f (rPN X.K g)) : CallR X f (rB X.K (bM g)) := CallR.mono h fun xs H Q q => by
  obtain ⟨w, S, ys, rfl, s, r, y, S', hq, q⟩ := q
  obtain ⟨zs, h1, hq⟩ := Option.bind_eq_some_iff.mp hq
  obtain ⟨z, h2, hq⟩ := Option.bind_eq_some_iff.mp hq
  split at hq
  · rename_i zs'
    cases hq
    refine ⟨w, _, zs, zs', rfl, s, r.toW s h1, h2, fun p us hp ru => ?_⟩
    obtain ⟨w2, hw, e2, s2, r2⟩ := mk_ref (o := .lst zs') (u := .lst us) s hp ⟨us, rfl, ru⟩
    rw [← hw]
    exact q w2 _ e2 s2 r2
  · cases hq
variable {x : Str} {p pos : Pos} {e : Expr} {es : List Expr} {ms : EM (List RV)} {c : CM} {id T : String}
theorem de_callB (hc : CallR X (.builtin id) (rB X.K c)) (hg : Gl X x) (hm : X.mg x = none) (hv : bootBuiltins x = some (.builtin id)) (ha : PA X (e :: es) (rA X.K ms)) (hn : x ≠ "__name__") (hdb : (x == ("__debug__" : Str)) = false)
    (he : starEach (e :: es) X.env = (false, eval e X.env) :: starEach es X.env) (hpl : (backTo pos (starEach es X.env)).any (·.1) = false) : PE X (.Call (.Name x p) (e :: es) [] pos) (rE X.K (eB c ms)) :=
  PE.mono (pe_callB hc hg hm hv ha hn hdb he hpl) fun _ _ _ h => b_read h
theorem de_callTy (hc : CallR X (.type T) (rB X.K c)) (hg : Gl X x) (hm : X.mg x = none) (hv : bootBuiltins x = some (.type T)) (ha : PA X (e :: es) (rA X.K ms)) (hn : x ≠ "__name__") (hdb : (x == ("__debug__" : Str)) = false)
    (he : starEach (e :: es) X.env = (false, eval e X.env) :: starEach es X.env) (hpl : (backTo pos (starEach es X.env)).any (·.1) = false) : PE X (.Call (.Name x p) (e :: es) [] pos) (rE X.K (eB c ms)) :=
  PE.mono (pe_callTy hc hg hm hv ha hn hdb he hpl) fun _ _ _ h => b_read h
theorem de_callBfun (hc : CallR X (.builtin id) (rB X.K c)) (hg : Gl X x) (hm : X.mg x = some (.builtin id)) (ha : PA X (e :: es) (rA X.K ms)) (hdb : (x == ("__debug__" : Str)) = false)
    (he : starEach (e :: es) X.env = (false, eval e X.env) :: starEach es X.env) (hpl : (backTo pos (starEach es X.env)).any (·.1) = false) : PE X (.Call (.Name x p) (e :: es) [] pos) (rE X.K (eB c ms)) :=
  PE.mono (pe_callBfun hc hg hm ha hdb he hpl) fun _ _ _ h => b_read h

/-! ### the single ones -/
def absG : List PV → Option PV
  | [.int i] => some (.int (if i < 0 then -i else i))
  | _ => none
def maxG : List PV → Option PV
  | [.int i, .int j] => some (.int (if j > i then j else i))
  | _ => none
def minG : List PV → Option PV
  | [.int i, .int j] => some (.int (if j < i then j else i))
  | _ => none
def intG : List PV → Option PV
  | [.int i] => some (.int i)
  | [.bl k] => some (.int (if k then 1 else 0))
  | _ => none
def gcdG : List PV → Option PV
  | [.int a, .int b] => some (.int ((Nat.gcd a.natAbs b.natAbs : Nat) : Int))
  | _ => none
def lenG : List PV → Option PV
  | [.lst xs] => some (.int xs.length)
  | [.tup xs] => some (.int xs.length)
  | [.dct t ks _] => if t then none else some (.int ks.length)
  | [.str z] => if smallL z.length then some (.int z.length) else none
  | [.scr ns] => some (.int ns.length)
  | _ => none
def strG : List PV → Option PV
  | [.int i] => if i.natAbs.log2 < 1920 then some (.str (toString i)) else none
  | _ => none
def tupG : List PV → Option PV
  | [.lst xs] => some (.tup xs)
  | [.tup xs] => some (.tup xs)
  | _ => none
def lstG : List PV → Option PV
  | [.lst xs] => some (.lst xs)
  | [.tup xs] => some (.lst xs)
  | _ => none
def isInts : List PV → Option (List Int)
  | [] => some []
  | .int i :: xs => (isInts xs).map (i :: ·)
  | _ => none
def isBls : List PV → Option (List Bool)
  | [] => some []
  | .bl i :: xs => (isBls xs).map (i :: ·)
  | _ => none
theorem isInts_rep {K : PySem.W.Frag} {w : VW} : ∀ {xs : List PV} {ns : List Int} {vs : List V}, isInts xs = some ns → RepL K w xs vs → vs = ns.map V.int ∧ xs = ns.map PV.int
  | [], _, _, h, r => by
    cases h
    exact ⟨r, rfl⟩
  | x :: xs, ns, vs, h, r => by
    unfold isInts at h
    split at h
    · rename_i e
      cases e
    · rename_i i ys e
      cases e
      obtain ⟨ms, h1, rfl⟩ := Option.map_eq_some_iff.mp h
      unfold RepL at r
      obtain ⟨v, r', rfl, a, b⟩ := r
      obtain ⟨rfl, rfl⟩ := isInts_rep h1 b
      obtain rfl : v = .int i := a
      exact ⟨rfl, rfl⟩
    · cases h
theorem cr_absG : CallR X (.builtin "abs") (rP X.K absG) := CallR.mono call_abs fun xs H Q q => by
  obtain ⟨w, S, ys, z, rfl, s, r, hg, q⟩ := q
  unfold absG at hg
  split at hg
  · cases hg
    obtain ⟨v, r', rfl, a, rfl⟩ := r
    obtain rfl : v = .int _ := a
    exact ⟨_, rfl, q w _ (Ext.refl w) s rfl⟩
  · cases hg
theorem cr_maxG (hc : X.calm = true) : CallR X (.builtin "max") (rP X.K maxG) := CallR.mono (call_max2 hc) fun xs H Q q => by
  obtain ⟨w, S, ys, z, rfl, s, r, hg, q⟩ := q
  unfold maxG at hg
  split at hg
  · cases hg
    obtain ⟨v, r', rfl, a, u, r'', rfl, b, rfl⟩ := r
    obtain rfl : v = .int _ := a
    obtain rfl : u = .int _ := b
    exact ⟨_, _, rfl, q w _ (Ext.refl w) s rfl⟩
  · cases hg
theorem cr_minG (hc : X.calm = true) : CallR X (.builtin "min") (rP X.K minG) := CallR.mono (call_min2 hc) fun xs H Q q => by
  obtain ⟨w, S, ys, z, rfl, s, r, hg, q⟩ := q
  unfold minG at hg
  split at hg
  · cases hg
    obtain ⟨v, r', rfl, a, u, r'', rfl, b, rfl⟩ := r
    obtain rfl : v = .int _ := a
    obtain rfl : u = .int _ := b
    exact ⟨_, _, rfl, q w _ (Ext.refl w) s rfl⟩
  · cases hg
theorem cr_gcdG : CallR X (.builtin "math.gcd") (rP X.K gcdG) := CallR.mono cr_gcd fun xs H Q q => by
  obtain ⟨w, S, ys, z, rfl, s, r, hg, q⟩ := q
  unfold gcdG at hg
  split at hg
  · cases hg
    obtain ⟨v, r', rfl, a, u, r'', rfl, b, rfl⟩ := r
    obtain rfl : v = .int _ := a
    obtain rfl : u = .int _ := b
    exact ⟨_, _, rfl, q w _ (Ext.refl w) s rfl⟩
  · cases hg
theorem cr_intG : CallR X (.type "int") (rP X.K intG) := CallR.mono call_int1 fun xs H Q q => by
  obtain ⟨w, S, ys, z, rfl, s, r, hg, q⟩ := q
  unfold intG at hg
  split at hg
  · cases hg
    obtain ⟨v, r', rfl, a, rfl⟩ := r
    obtain rfl : v = .int _ := a
    exact .inl ⟨_, rfl, q w _ (Ext.refl w) s rfl⟩
  · cases hg
    obtain ⟨v, r', rfl, a, rfl⟩ := r
    obtain rfl : v = .bl _ := a
    exact .inr ⟨_, rfl, q w _ (Ext.refl w) s rfl⟩
  · cases hg
theorem cr_strG : CallR X (.type "str") (rP X.K strG) := CallR.mono call_str_int fun xs H Q q => by
  obtain ⟨w, S, ys, z, rfl, s, r, hg, q⟩ := q
  unfold strG at hg
  split at hg
  · split at hg
    · rename_i hz
      cases hg
      obtain ⟨v, r', rfl, a, rfl⟩ := r
      obtain rfl : v = .int _ := a
      exact ⟨_, rfl, hz, q w _ (Ext.refl w) s rfl⟩
    · cases hg
  · cases hg
theorem cr_lenG : CallR X (.builtin "len") (rP X.K lenG) := by
  intro pins s σ H xs us Q I rs q
  obtain ⟨w, S, ys, z, rfl, sr, r, hg, q⟩ := q
  unfold lenG at hg
  split at hg
  · cases hg
    obtain ⟨v, r', rfl, ⟨a, vs, rfl, ha, hr⟩, rfl⟩ := r
    refine call_len pins s σ _ _ us Q I rs ⟨_, vs.length, rfl, .inl ⟨vs, SqL.of ha, rfl⟩, ?_⟩
    rw [← hr.length]
    exact q w _ (Ext.refl w) sr rfl
  · rename_i xs
    cases hg
    obtain ⟨v, r', rfl, a, rfl⟩ := r
    have a' : Rep X.K w (.tup xs) v := a
    unfold Rep at a'
    obtain ⟨b, vs, rfl, ha, hr⟩ := a'
    refine call_len pins s σ _ _ us Q I rs ⟨_, vs.length, rfl, .inr ⟨vs, SqT.of ha, rfl⟩, ?_⟩
    rw [← hr.length]
    exact q w _ (Ext.refl w) sr rfl
  · rename_i t ks vs
    obtain ⟨v, r', rfl, ⟨a, u, rfl, hrd, hd⟩, rfl⟩ := r
    rcases hd with ⟨rfl, kvs, rfl, rfl, hr⟩ | ⟨rfl, kvs, rfl, rfl, hr⟩
    · cases hg
      rw [Vals.ref1 rs]
      refine d_len I hrd fun t s' I' => ⟨.int kvs.length, w.H, I', ⟨t, rfl⟩, ?_⟩
      exact q w (.int kvs.length) (Ext.refl w) sr (by rw [List.length_map]; rfl)
    · cases hg
  · split at hg
    · rename_i hz
      cases hg
      obtain ⟨v, r', rfl, a, rfl⟩ := r
      obtain rfl : v = .str _ := a
      exact call_len pins s σ _ _ us Q I rs ⟨_, _, rfl, ⟨smallL_le hz, rfl⟩, q w _ (Ext.refl w) sr rfl⟩
    · cases hg
  · rename_i ns
    cases hg
    obtain ⟨v, r', rfl, a, rfl⟩ := r
    have a' : Rep X.K w (.scr ns) v := a
    unfold Rep at a'
    obtain ⟨b, rfl, ha⟩ := a'
    refine call_len pins s σ _ _ us Q I rs ⟨_, ns.length, rfl, .inl ⟨_, ha.seq, by rw [List.length_map]⟩, ?_⟩
    exact q w _ (Ext.refl w) sr rfl
  · cases hg
theorem cr_tupG : CallR X (.type "tuple") (rP X.K tupG) := CallR.mono call_tuple_of fun xs H Q q => by
  obtain ⟨w, S, ys, z, rfl, s, r, hg, q⟩ := q
  unfold tupG at hg
  split at hg
  · cases hg
    obtain ⟨v, r', rfl, ⟨a, vs, rfl, ha, hr⟩, rfl⟩ := r
    refine ⟨a, vs, rfl, .inl ⟨SqL.of ha, fun p hp => ?_⟩⟩
    obtain ⟨w2, hw, e2, s2, r2⟩ := mk_tup s hp hr
    rw [← hw]
    exact q w2 _ e2 s2 r2
  · rename_i xs
    cases hg
    obtain ⟨v, r', rfl, a, rfl⟩ := r
    have a' : Rep X.K w (.tup xs) v := a
    unfold Rep at a'
    obtain ⟨b, vs, rfl, ha, hr⟩ := a'
    refine ⟨b, vs, rfl, .inr ⟨SqT.of ha, q w _ (Ext.refl w) s a⟩⟩
  · cases hg
theorem cr_lstG : CallR X (.type "list") (rPN X.K lstG) := CallR.mono call_list_of fun xs H Q q => by
  obtain ⟨w, S, ys, z, rfl, s, r, hg, q⟩ := q
  unfold lstG at hg
  split at hg
  · cases hg
    obtain ⟨v, r', rfl, ⟨a, vs, rfl, ha, hr⟩, rfl⟩ := r
    exact ⟨a, vs, rfl, .inl (SqL.of ha), fun p hp => q p vs hp hr⟩
  · cases hg
    obtain ⟨v, r', rfl, a, rfl⟩ := r
    have a' : Rep X.K w (.tup z) v := a
    unfold Rep at a'
    obtain ⟨b, vs, rfl, ha, hr⟩ := a'
    exact ⟨b, vs, rfl, .inr (SqT.of ha), fun p hp => q p vs hp hr⟩
  · cases hg
theorem lstG_l (ys : List PV) (z : PV) (h : lstG ys = some z) : ∃ zs, z = .lst zs := by
  unfold lstG at h
  split at h
  · cases h
    exact ⟨_, rfl⟩
  · cases h
    exact ⟨_, rfl⟩
  · cases h
def sumG : List PV → Option PV
  | [.lst xs] => (isInts xs).map fun ns => .int ns.sum
  | _ => none
theorem cr_sumG (hc : X.calm = true) : CallR X (.builtin "sum") (rP X.K sumG) := CallR.mono (cr_sum hc) fun xs H Q q => by
  obtain ⟨w, S, ys, z, rfl, s, r, hg, q⟩ := q
  unfold sumG at hg
  split at hg
  · obtain ⟨ns, h1, rfl⟩ := Option.map_eq_some_iff.mp hg
    obtain ⟨v, r', rfl, ⟨a, vs, rfl, ha, hr⟩, rfl⟩ := r
    obtain ⟨rfl, _⟩ := isInts_rep h1 hr
    exact ⟨a, ns, rfl, SqL.of ha, q w _ (Ext.refl w) s rfl⟩
  · cases hg
end
end Dn

/-! Dn 11: what is walked; parallel stores; methods. -/
namespace Dn
open PySem PySem.Spec PyProof.Rows L2

/-! ### a list, a tuple -/
def itOf (S : Sto) : RV → Option Itm
  | .v (.lst xs) => some ⟨xs, []⟩
  | .v (.tup xs) => some ⟨xs, []⟩
  | .v (.scr ns) => some ⟨ns.map PV.int, []⟩
  | .ref n => match S[n]? with
    | some (.lst xs) => some ⟨xs, [(n, .lst xs)]⟩
    | _ => none
  | _ => none
/-- the same, told as one word: the things at a -/
structure SeqIs (K : PySem.W.Frag) (w0 : VW) (b : Bool) (a : Addr) (it : Itm) : Prop where
  at_ : ∀ w S, Ext w0 w → StR K w S → Itm.ok it.src S → ∃ vs, (if b then SqL K w.H a vs else SqT K w.H a vs) ∧ RepL K w it.xs vs
theorem ok_nil (S : Sto) : Itm.ok [] S := fun _ h => nomatch h
theorem seqOf {K : PySem.W.Frag} {w0 : VW} {S0 : Sto} {x : RV} {v : V} {it : Itm} (s0 : StR K w0 S0) (h : itOf S0 x = some it) (rx : RR K w0 x v) : ∃ (b : Bool) (a : Addr), v = .ref a ∧ SeqIs K w0 b a it ∧ ∃ vs, (if b then SqL K w0.H a vs else SqT K w0.H a vs) := by
  unfold itOf at h
  split at h
  · rename_i xs
    cases h
    unfold RR Rep at rx
    obtain ⟨a, vs, rfl, hF, ha, hr⟩ := rx
    exact ⟨true, a, rfl, ⟨fun w S e s _ => ⟨vs, SqL.of (frz_ext s0 e hF ha), RepL.ext s0 e _ _ hr⟩⟩, vs, SqL.of ha⟩
  · rename_i xs
    cases h
    unfold RR Rep at rx
    obtain ⟨a, vs, rfl, ha, hr⟩ := rx
    exact ⟨false, a, rfl, ⟨fun w S e s _ => ⟨vs, SqT.of (tup_ext s0 e ha), RepL.ext s0 e _ _ hr⟩⟩, vs, SqT.of ha⟩
  · rename_i ns
    cases h
    unfold RR Rep at rx
    obtain ⟨a, rfl, ha⟩ := rx
    exact ⟨true, a, rfl, ⟨fun w S e s _ => ⟨_, (scr_ext s0 e ha).seq, RepL.ints ns⟩⟩, _, ha.seq⟩
  · rename_i n
    split at h
    · rename_i xs hx
      cases h
      obtain ⟨a, h1, rfl⟩ := rx
      obtain ⟨u, hu, vs, rfl, hr⟩ := s0.ob n a _ h1 hx
      refine ⟨true, a, rfl, ⟨fun w S e s ok => ?_⟩, vs, SqL.of hu⟩
      have hS : S[n]? = some (.lst xs) := ok (n, .lst xs) (by simp)
      obtain ⟨u, hu, us, rfl, hr⟩ := s.ob n a _ (e.th h1) hS
      exact ⟨us, SqL.of hu, hr⟩
    · cases h
  · cases h
section
variable {X : Cx} {K : PySem.W.Frag} {w0 : VW} {a : Addr} {it : Itm}
theorem itl_ok (h : SeqIs K w0 true a it) (J : It) (hgo : J.go = (Itl K a).go) (hst : J.stop = (Itl K a).stop) (hy : ∀ (i : Nat) w v H', J.yld i w.H v H' → ∀ S, Ext w0 w → StR K w S → Itm.ok it.src S → ∀ x, it.xs[i]? = some x → ∃ w', w'.H = H' ∧ Ext w w' ∧ StR K w' S ∧ Rep K w' x v) : ItOk K w0 J it := by
  intro w S e s ok
  obtain ⟨vs, hq, hr⟩ := h.at_ w S e s ok
  refine ⟨fun i x hx => ⟨?_, fun v H' y => hy i w v H' y S e s ok x hx⟩, ?_⟩
  · rw [hgo]
    obtain ⟨v, hv, rv⟩ := hr.get hx
    exact ⟨vs, v, hq, hv⟩
  · rw [hst]
    exact ⟨vs, hq, by rw [hr.length]; exact Nat.le_refl _⟩
theorem itl_seq (h : SeqIs K w0 true a it) : ItOk K w0 (Itl K a) it := itl_ok h _ rfl rfl fun i w v H' y S e s ok x hx => by
  obtain ⟨rfl, y⟩ := y
  obtain ⟨vs, hq, hr⟩ := h.at_ w S e s ok
  obtain ⟨v', hv, rv⟩ := hr.get hx
  rw [y vs hq] at hv
  cases hv
  exact ⟨w, rfl, Ext.refl w, s, rv⟩
theorem itt_seq (h : SeqIs K w0 false a it) : ItOk K w0 (Itt K a) it := by
  intro w S e s ok
  obtain ⟨vs, hq, hr⟩ := h.at_ w S e s ok
  refine ⟨fun i x hx => ?_, ⟨vs, hq, by rw [hr.length]; exact Nat.le_refl _⟩⟩
  obtain ⟨v', hv, rv⟩ := hr.get hx
  refine ⟨⟨vs, v', hq, hv⟩, fun v H' y => ?_⟩
  obtain ⟨rfl, y⟩ := y
  rw [y vs hq] at hv
  cases hv
  exact ⟨w, rfl, Ext.refl w, s, rv⟩
def iSq (m : EM RV) : EM Itm := fun r S => (m r S).bind fun p => (itOf p.2 p.1).map fun it => (it, p.2)
variable {tg l : Expr} {m : EM RV}
theorem pi_seq {tl : TE} (hl : PE X l tl) : PI X tg l (fun σ H R => tl σ H fun x H1 => ∃ a, x = .ref a ∧ (((∃ xs, SqL X.K H1 a xs) ∧ R (Itl X.K a) H1) ∨ ((∃ xs, SqT X.K H1 a xs) ∧ R (Itt X.K a) H1))) := by
  refine ⟨fun pins s σ H R I h => thn (hl.run pins s σ H _ I h) ?_⟩
  rintro v s1 ⟨x, H1, I1, r1, a, rfl, ⟨⟨xs, hq⟩, q⟩ | ⟨⟨xs, hq⟩, q⟩⟩
  · cases r1
    obtain ⟨its, rv, p, hz⟩ := I1.list hq
    exact wpAny_pyIter_list p.isList (pi_one (tk := s1.toks) I1 _ (turn_list a _) ⟨_, Heap.get?_push_size _ rfl, rfl, rfl⟩ q)
  · cases r1
    obtain ⟨its, rv, p, hz⟩ := I1.tuple hq
    exact wpAny_pyIter_tuple (show s1.heap.IsTuple a its.toArray from p) (pi_one (tk := s1.toks) I1 _ (turn_tuple a _) ⟨_, Heap.get?_push_size _ rfl, rfl, rfl⟩ q)
theorem di_seq (hl : PE X l (rE X.K m)) : PI X tg l (rI X.K (iSq m)) := PI.mono (pi_seq hl) fun σ H R h => by
  obtain ⟨w, S, r, rfl, s, lo, it, S', h, q⟩ := h
  obtain ⟨⟨x, S1⟩, g1, h⟩ := Option.bind_eq_some_iff.mp h
  obtain ⟨it', g2, h⟩ := Option.map_eq_some_iff.mp h
  cases h
  refine ⟨w, S, r, rfl, s, lo, x, _, g1, fun w1 v e1 s1 rv => ?_⟩
  obtain ⟨b, a, rfl, hs, vs, hv⟩ := seqOf s1 g2 rv
  cases b with
  | true => exact ⟨a, rfl, .inl ⟨⟨vs, hv⟩, q w1 _ e1 s1 (itl_seq hs)⟩⟩
  | false => exact ⟨a, rfl, .inr ⟨⟨vs, hv⟩, q w1 _ e1 s1 (itt_seq hs)⟩⟩

/-! ### ranges -/
def big62 (i : Int) : Bool := decide (-(2 ^ 62) ≤ i) && decide (i < 2 ^ 62)
def rngV (lo : Int) (n : Nat) : List PV := (List.range n).map fun i => PV.int (lo + (i : Nat))
def rngC (lo c : Int) (n : Nat) : List PV := (List.range n).map fun i => PV.int (lo + (i : Nat) * c)
def rng1 : List RV → Option Itm
  | [.v (.int j)] => if big62 j = true then some ⟨rngV 0 j.toNat, []⟩ else none
  | _ => none
def rng2 : List RV → Option Itm
  | [.v (.int i), .v (.int j)] => if big62 i && big62 j then some ⟨rngV i (j - i).toNat, []⟩ else none
  | _ => none
/-- down by one -/
def rng3 : List RV → Option Itm
  | [.v (.int i), .v (.int j), .v (.int c)] => if decide (c = -1) && (big62 i && big62 j) then some ⟨rngC i (-1) (i - j).toNat, []⟩ else none
  | _ => none
def iRg (f : List RV → Option Itm) (ms : EM (List RV)) : EM Itm := fun r S => (ms r S).bind fun p => (f p.1).map fun it => (it, p.2)
theorem itr_ok (lo : Int) (n : Nat) : ItOk K w0 (Itr lo n) ⟨rngV lo n, []⟩ := by
  intro w S e s _
  refine ⟨fun i x hx => ?_, ?_⟩
  · unfold rngV at hx
    rw [List.getElem?_map] at hx
    obtain ⟨j, hj, rfl⟩ := Option.map_eq_some_iff.mp hx
    obtain ⟨h1, h2⟩ := List.getElem?_eq_some_iff.mp hj
    rw [List.getElem_range] at h2
    subst h2
    rw [List.length_range] at h1
    refine ⟨h1, fun v H' y => ?_⟩
    obtain ⟨rfl, rfl⟩ := y
    exact ⟨w, rfl, Ext.refl w, s, rfl⟩
  · show n ≤ (rngV lo n).length
    unfold rngV
    rw [List.length_map, List.length_range]
    exact Nat.le_refl _
theorem itc_ok (lo c : Int) (n : Nat) : ItOk K w0 (Itc lo c n) ⟨rngC lo c n, []⟩ := by
  intro w S e s _
  refine ⟨fun i x hx => ?_, ?_⟩
  · unfold rngC at hx
    rw [List.getElem?_map] at hx
    obtain ⟨j, hj, rfl⟩ := Option.map_eq_some_iff.mp hx
    obtain ⟨h1, h2⟩ := List.getElem?_eq_some_iff.mp hj
    rw [List.getElem_range] at h2
    subst h2
    rw [List.length_range] at h1
    refine ⟨h1, fun v H' y => ?_⟩
    obtain ⟨rfl, rfl⟩ := y
    exact ⟨w, rfl, Ext.refl w, s, rfl⟩
  · show n ≤ (rngC lo c n).length
    unfold rngC
    rw [List.length_map, List.length_range]
    exact Nat.le_refl _
theorem big62_of {i : Int} (h : big62 i = true) : -(2 ^ 62) ≤ i ∧ i < 2 ^ 62 := by
  unfold big62 at h
  rw [Bool.and_eq_true, decide_eq_true_eq, decide_eq_true_eq] at h
  exact h
variable {x y z : Expr} {ms : EM (List RV)} {p pos : Pos}
theorem di_range1 (hg : Gl X "range") (hm : X.mg "range" = none) (ha : PA X [x] (rA X.K ms)) (hs : starEach [x] X.env = [(false, eval x X.env)]) : PI X tg (.Call (.Name "range" p) [x] [] pos) (rI X.K (iRg rng1 ms)) :=
  PI.mono (pi_range1 hg hm ha hs) fun σ H R h => by
    obtain ⟨w, S, r, rfl, s, lo, it, S', h, q⟩ := h
    obtain ⟨⟨xs, S1⟩, g1, h⟩ := Option.bind_eq_some_iff.mp h
    obtain ⟨it', g2, h⟩ := Option.map_eq_some_iff.mp h
    cases h
    refine ⟨w, S, r, rfl, s, lo, xs, _, g1, fun w1 vs e1 s1 rv => ?_⟩
    unfold rng1 at g2
    dsimp only at g2
    split at g2
    · split at g2
      · rename_i j hb
        cases g2
        obtain ⟨v, r', rfl, rv, rfl⟩ := rv
        obtain rfl : v = .int _ := rv
        obtain ⟨b1, b2⟩ := big62_of hb
        exact ⟨_, rfl, b1, b2, q w1 _ e1 s1 (itr_ok _ _)⟩
      · cases g2
    · cases g2
theorem di_range2 (hg : Gl X "range") (hm : X.mg "range" = none) (ha : PA X [x, y] (rA X.K ms)) (hs : starEach [x, y] X.env = [(false, eval x X.env), (false, eval y X.env)]) (hs2 : starEach [y] X.env = [(false, eval y X.env)]) : PI X tg (.Call (.Name "range" p) [x, y] [] pos) (rI X.K (iRg rng2 ms)) :=
  PI.mono (pi_range2 hg hm ha hs hs2) fun σ H R h => by
    obtain ⟨w, S, r, rfl, s, lo, it, S', h, q⟩ := h
    obtain ⟨⟨xs, S1⟩, g1, h⟩ := Option.bind_eq_some_iff.mp h
    obtain ⟨it', g2, h⟩ := Option.map_eq_some_iff.mp h
    cases h
    refine ⟨w, S, r, rfl, s, lo, xs, _, g1, fun w1 vs e1 s1 rv => ?_⟩
    unfold rng2 at g2
    dsimp only at g2
    split at g2
    · split at g2
      · rename_i i j hb
        cases g2
        obtain ⟨v, r', rfl, rv, u, r'', rfl, ru, rfl⟩ := rv
        obtain rfl : v = .int _ := rv
        obtain rfl : u = .int _ := ru
        rw [Bool.and_eq_true] at hb
        obtain ⟨b1, b2⟩ := big62_of hb.1
        obtain ⟨b3, b4⟩ := big62_of hb.2
        exact ⟨_, _, rfl, ⟨b1, b2, b3, b4⟩, q w1 _ e1 s1 (itr_ok _ _)⟩
      · cases g2
    · cases g2
theorem di_range3 (hg : Gl X "range") (hm : X.mg "range" = none) (ha : PA X [x, y, z] (rA X.K ms)) (hs : starEach [x, y, z] X.env = (false, eval x X.env) :: starEach [y, z] X.env) (hpl : (backTo pos (starEach [y, z] X.env)).any (·.1) = false) : PI X tg (.Call (.Name "range" p) [x, y, z] [] pos) (rI X.K (iRg rng3 ms)) :=
  PI.mono (pi_range3 hg hm ha hs hpl) fun σ H R h => by
    obtain ⟨w, S, r, rfl, s, lo, it, S', h, q⟩ := h
    obtain ⟨⟨xs, S1⟩, g1, h⟩ := Option.bind_eq_some_iff.mp h
    obtain ⟨it', g2, h⟩ := Option.map_eq_some_iff.mp h
    cases h
    refine ⟨w, S, r, rfl, s, lo, xs, _, g1, fun w1 vs e1 s1 rv => ?_⟩
    unfold rng3 at g2
    dsimp only at g2
    split at g2
    · split at g2
      · rename_i i j c hb
        cases g2
        obtain ⟨v, r', rfl, rv, u, r'', rfl, ru, t, r3, rfl, rt, rfl⟩ := rv
        obtain rfl : v = .int _ := rv
        obtain rfl : u = .int _ := ru
        obtain rfl : t = .int _ := rt
        rw [Bool.and_eq_true, Bool.and_eq_true, decide_eq_true_eq] at hb
        obtain ⟨rfl, hb⟩ := hb
        obtain ⟨b1, b2⟩ := big62_of hb.1
        obtain ⟨b3, b4⟩ := big62_of hb.2
        exact ⟨_, _, _, _, rfl, RgC.neg b1 b2 b3 b4, q w1 _ e1 s1 (itc_ok _ _ _)⟩
      · cases g2
    · cases g2

/-! ### enumerate, zip of lists -/
def enumL : Nat → List PV → List PV
  | _, [] => []
  | i, x :: xs => .tup [.int (i : Nat), x] :: enumL (i + 1) xs
theorem enumL_get : ∀ (k : Nat) (xs : List PV) (i : Nat), (enumL k xs)[i]? = (xs[i]?).map fun x => PV.tup [.int ((k + i : Nat) : Int), x]
  | k, [], i => by simp [enumL]
  | k, x :: xs, 0 => by simp [enumL]
  | k, x :: xs, i + 1 => by
    show (enumL (k + 1) xs)[i]? = _
    rw [enumL_get (k + 1) xs i, List.getElem?_cons_succ, show k + 1 + i = k + (i + 1) by omega]
theorem enumL_length : ∀ (k : Nat) (xs : List PV), (enumL k xs).length = xs.length
  | _, [] => rfl
  | k, x :: xs => by
    show (enumL (k + 1) xs).length + 1 = _
    rw [enumL_length]
    rfl
def isLst (S : Sto) : RV → Bool
  | .v (.lst _) => true
  | .v (.scr _) => true
  | .ref _ => true
  | _ => false
def iEn (ms : EM (List RV)) : EM Itm := fun r S => (ms r S).bind fun p => match p.1 with
  | [x] => if isLst p.2 x = true then (itOf p.2 x).map fun it => (⟨enumL 0 it.xs, it.src⟩, p.2) else none
  | _ => none
theorem seqOfL {S0 : Sto} {x : RV} {v : V} {it : Itm} (s0 : StR K w0 S0) (hl : isLst S0 x = true) (h : itOf S0 x = some it) (rx : RR K w0 x v) : ∃ (a : Addr), v = .ref a ∧ SeqIs K w0 true a it ∧ ∃ vs, SqL K w0.H a vs := by
  unfold itOf at h
  split at h
  · rename_i xs
    cases h
    unfold RR Rep at rx
    obtain ⟨a, vs, rfl, hF, ha, hr⟩ := rx
    exact ⟨a, rfl, ⟨fun w S e s _ => ⟨vs, SqL.of (frz_ext s0 e hF ha), RepL.ext s0 e _ _ hr⟩⟩, vs, SqL.of ha⟩
  · cases hl
  · rename_i ns
    cases h
    unfold RR Rep at rx
    obtain ⟨a, rfl, ha⟩ := rx
    exact ⟨a, rfl, ⟨fun w S e s _ => ⟨_, (scr_ext s0 e ha).seq, RepL.ints ns⟩⟩, _, ha.seq⟩
  · rename_i n
    split at h
    · rename_i xs hx
      cases h
      obtain ⟨a, h1, rfl⟩ := rx
      obtain ⟨u, hu, vs, rfl, hr⟩ := s0.ob n a _ h1 hx
      refine ⟨a, rfl, ⟨fun w S e s ok => ?_⟩, vs, SqL.of hu⟩
      have hS : S[n]? = some (.lst xs) := ok (n, .lst xs) (by simp)
      obtain ⟨u, hu, us, rfl, hr⟩ := s.ob n a _ (e.th h1) hS
      exact ⟨us, SqL.of hu, hr⟩
    · cases h
  · cases h
theorem new_tup {w : VW} {S : Sto} {T : Addr} {xs : List PV} {vs : List V} (s : StR K w S) (hT : w.H T = none) (hr : RepL K w xs vs) : ∃ w', w'.H = upd w.H T (.tup vs) ∧ Ext w w' ∧ StR K w' S ∧ Rep K w' (.tup xs) (.ref T) := by
  obtain ⟨w2, hw, e2, s2, r2⟩ := mk_tup s hT hr
  exact ⟨w2, hw, e2, s2, r2⟩
theorem RepL.two {w : VW} {x y : PV} {u v : V} (h : Rep K w x u) (g : Rep K w y v) : RepL K w [x, y] [u, v] := by
  unfold RepL
  exact ⟨_, _, rfl, h, RepL.one g⟩
theorem ite_ok (h : SeqIs K w0 true a it) : ItOk K w0 (Ite K a) ⟨enumL 0 it.xs, it.src⟩ := by
  intro w S e s ok
  obtain ⟨vs, hq, hr⟩ := h.at_ w S e s ok
  refine ⟨fun i x hx => ?_, ⟨vs, hq, by show vs.length ≤ (enumL 0 it.xs).length; rw [enumL_length, hr.length]; exact Nat.le_refl _⟩⟩
  have hx' : (enumL 0 it.xs)[i]? = some x := hx
  rw [enumL_get] at hx'
  obtain ⟨y, hy, rfl⟩ := Option.map_eq_some_iff.mp hx'
  obtain ⟨v', hv, rv⟩ := hr.get hy
  refine ⟨⟨vs, v', hq, hv⟩, fun v H' yl => ?_⟩
  obtain ⟨T, u, rfl, hT, rfl, hu⟩ := yl
  have := hu vs hq
  rw [hv] at this
  cases this
  rw [Nat.zero_add]
  exact new_tup s hT (RepL.two (show Rep K w (.int ((i : Nat) : Int)) (.int ((i : Nat) : Int)) from rfl) rv)
theorem di_enum {elts : List Expr} {kk : Nat} {tpos : Pos} (hg : Gl X "enumerate") (hm : X.mg "enumerate" = none) (ha : PA X [x] (rA X.K ms)) (hs : starEach [x] X.env = [(false, eval x X.env)]) :
    PI X (.Tuple elts kk tpos) (.Call (.Name "enumerate" p) [x] [] pos) (rI X.K (iEn ms)) :=
  PI.mono (pi_enum hg hm ha hs) fun σ H R h => by
    obtain ⟨w, S, r, rfl, s, lo, it, S', h, q⟩ := h
    obtain ⟨⟨xs, S1⟩, g1, h⟩ := Option.bind_eq_some_iff.mp h
    refine ⟨w, S, r, rfl, s, lo, xs, S1, g1, fun w1 vs e1 s1 rv => ?_⟩
    dsimp only at h
    split at h
    · split at h
      · rename_i x hl
        obtain ⟨it', g2, h⟩ := Option.map_eq_some_iff.mp h
        cases h
        obtain ⟨v, r', rfl, rv, rfl⟩ := rv
        obtain ⟨a, rfl, hs, us, hus⟩ := seqOfL s1 hl g2 rv
        exact ⟨a, us, rfl, hus, q w1 _ e1 s1 (ite_ok hs)⟩
      · cases h
    · cases h
def zipL : List PV → List PV → List PV
  | x :: xs, y :: ys => .tup [x, y] :: zipL xs ys
  | _, _ => []
theorem zipL_get : ∀ (xs ys : List PV) (i : Nat) (z : PV), (zipL xs ys)[i]? = some z → ∃ x y, xs[i]? = some x ∧ ys[i]? = some y ∧ z = .tup [x, y]
  | [], ys, i, z, h => by simp [zipL] at h
  | x :: xs, [], i, z, h => by simp [zipL] at h
  | x :: xs, y :: ys, 0, z, h => by
    simp [zipL] at h
    exact ⟨x, y, rfl, rfl, h.symm⟩
  | x :: xs, y :: ys, i + 1, z, h => zipL_get xs ys i z (by simpa [zipL] using h)
theorem zipL_length : ∀ (xs ys : List PV), xs.length ≤ (zipL xs ys).length ∨ ys.length ≤ (zipL xs ys).length
  | [], ys => .inl (Nat.zero_le _)
  | x :: xs, [] => .inr (Nat.zero_le _)
  | x :: xs, y :: ys => by
    show xs.length + 1 ≤ (zipL xs ys).length + 1 ∨ ys.length + 1 ≤ (zipL xs ys).length + 1
    rcases zipL_length xs ys with h | h
    · exact .inl (by omega)
    · exact .inr (by omega)
def isTup : RV → Bool
  | .v (.tup _) => true
  | _ => false
def iZp (ms : EM (List RV)) : EM Itm := fun r S => (ms r S).bind fun p => match p.1 with
  | [x, y] => if (isLst p.2 x && isLst p.2 y) || (isTup x && isTup y) then (itOf p.2 x).bind fun it => (itOf p.2 y).map fun jt => (⟨zipL it.xs jt.xs, it.src ++ jt.src⟩, p.2) else none
  | _ => none
theorem ok_app {a b : List (Nat × SO)} {S : Sto} (h : Itm.ok (a ++ b) S) : Itm.ok a S ∧ Itm.ok b S := ⟨fun p m => h p (List.mem_append_left _ m), fun p m => h p (List.mem_append_right _ m)⟩
theorem itz_ok {b : Addr} {jt : Itm} (h : SeqIs K w0 true a it) (g : SeqIs K w0 true b jt) : ItOk K w0 (Itz K a b) ⟨zipL it.xs jt.xs, it.src ++ jt.src⟩ := by
  intro w S e s ok
  obtain ⟨o1, o2⟩ := ok_app ok
  obtain ⟨vs, hq, hr⟩ := h.at_ w S e s o1
  obtain ⟨us, gq, gr⟩ := g.at_ w S e s o2
  refine ⟨fun i z hz => ?_, ⟨vs, us, hq, gq, ?_⟩⟩
  · obtain ⟨x, y, hx, hy, rfl⟩ := zipL_get _ _ _ _ hz
    obtain ⟨v, hv, rv⟩ := hr.get hx
    obtain ⟨u, hu, ru⟩ := gr.get hy
    refine ⟨⟨vs, us, v, u, hq, gq, hv, hu⟩, fun v0 H' yl => ?_⟩
    obtain ⟨T, v1, u1, rfl, hT, rfl, y1, y2⟩ := yl
    have z1 := y1 vs hq
    rw [hv] at z1
    cases z1
    have z2 := y2 us gq
    rw [hu] at z2
    cases z2
    exact new_tup s hT (RepL.two rv ru)
  · rw [← hr.length, ← gr.length]
    exact zipL_length _ _
theorem itzT_ok {b : Addr} {jt : Itm} (h : SeqIs K w0 false a it) (g : SeqIs K w0 false b jt) : ItOk K w0 (RZ.ItzT K a b) ⟨zipL it.xs jt.xs, it.src ++ jt.src⟩ := by
  intro w S e s ok
  obtain ⟨o1, o2⟩ := ok_app ok
  obtain ⟨vs, hq, hr⟩ := h.at_ w S e s o1
  obtain ⟨us, gq, gr⟩ := g.at_ w S e s o2
  refine ⟨fun i z hz => ?_, ⟨vs, us, hq, gq, ?_⟩⟩
  · obtain ⟨x, y, hx, hy, rfl⟩ := zipL_get _ _ _ _ hz
    obtain ⟨v, hv, rv⟩ := hr.get hx
    obtain ⟨u, hu, ru⟩ := gr.get hy
    refine ⟨⟨vs, us, v, u, hq, gq, hv, hu⟩, fun v0 H' yl => ?_⟩
    obtain ⟨T, v1, u1, rfl, hT, rfl, y1, y2⟩ := yl
    have z1 := y1 vs hq
    rw [hv] at z1
    cases z1
    have z2 := y2 us gq
    rw [hu] at z2
    cases z2
    exact new_tup s hT (RepL.two rv ru)
  · rw [← hr.length, ← gr.length]
    exact zipL_length _ _
theorem seqOfT {S0 : Sto} {x : RV} {v : V} {it : Itm} (hl : isTup x = true) (s0 : StR K w0 S0) (h : itOf S0 x = some it) (rx : RR K w0 x v) : ∃ (a : Addr), v = .ref a ∧ SeqIs K w0 false a it ∧ ∃ vs, SqT K w0.H a vs := by
  unfold isTup at hl
  split at hl
  · cases h
    unfold RR Rep at rx
    obtain ⟨a, vs, rfl, ha, hr⟩ := rx
    exact ⟨a, rfl, ⟨fun w S e s _ => ⟨vs, SqT.of (tup_ext s0 e ha), RepL.ext s0 e _ _ hr⟩⟩, vs, SqT.of ha⟩
  · cases hl
theorem di_zip {elts : List Expr} {kk : Nat} {tpos : Pos} (hg : Gl X "zip") (hm : X.mg "zip" = none) (ha : PA X [x, y] (rA X.K ms)) (hs : starEach [x, y] X.env = (false, eval x X.env) :: starEach [y] X.env) (hpl : (backTo pos (starEach [y] X.env)).any (·.1) = false) :
    PI X (.Tuple elts kk tpos) (.Call (.Name "zip" p) [x, y] [] pos) (rI X.K (iZp ms)) :=
  PI.mono (RZ.pi_zipA hg hm ha hs hpl) fun σ H R h => by
    obtain ⟨w, S, r, rfl, s, lo, it, S', h, q⟩ := h
    obtain ⟨⟨xs, S1⟩, g1, h⟩ := Option.bind_eq_some_iff.mp h
    refine ⟨w, S, r, rfl, s, lo, xs, S1, g1, fun w1 vs e1 s1 rv => ?_⟩
    dsimp only at h
    split at h
    · split at h
      · rename_i x y hl
        obtain ⟨it1, g2, h⟩ := Option.bind_eq_some_iff.mp h
        obtain ⟨it2, g3, h⟩ := Option.map_eq_some_iff.mp h
        cases h
        obtain ⟨v, r', rfl, rv, u, r'', rfl, ru, rfl⟩ := rv
        rw [Bool.or_eq_true, Bool.and_eq_true, Bool.and_eq_true] at hl
        rcases hl with ⟨l1, l2⟩ | ⟨l1, l2⟩
        · obtain ⟨a, rfl, hs, us, hus⟩ := seqOfL s1 l1 g2 rv
          obtain ⟨b, rfl, ks, ts, hts⟩ := seqOfL s1 l2 g3 ru
          exact ⟨a, b, us, ts, rfl, .inl ⟨hus, hts, q w1 _ e1 s1 (itz_ok hs ks)⟩⟩
        · obtain ⟨a, rfl, hs, us, hus⟩ := seqOfT l1 s1 g2 rv
          obtain ⟨b, rfl, ks, ts, hts⟩ := seqOfT l2 s1 g3 ru
          exact ⟨a, b, us, ts, rfl, .inr ⟨hus, hts, q w1 _ e1 s1 (itzT_ok hs ks)⟩⟩
      · cases h
    · cases h
end
end Dn

/-! Dn 12: parallel stores; methods of lists; list(range(..)). -/
namespace Dn
open PySem PySem.Spec PyProof.Rows L2

/-! ### a, b, .. = x, y, .. -/
def setAll : Lo → List Nat → List RV → Lo
  | r, i :: is, x :: xs => setAll (r.set i (some x)) is xs
  | r, _, _ => r
def sPar (is : List Nat) (ms : EM (List RV)) : SM := fun r S => (ms r S).bind fun p => if p.1.length = is.length ∧ smallL is.length = true then some (.nx (setAll r is p.1), p.2) else none
theorem LoR.set' {K : PySem.W.Frag} {w : VW} {r : Lo} {σ : L2.St} {x : RV} {v : V} {i : Nat} (l : LoR K w r σ) (h : RR K w x v) : LoR K w (r.set i (some x)) (σ.set i (some v)) := l.set h
section
variable {X : Cx}
theorem ds_par2 {i j : Nat} {x y : Str} {a b : Expr} {ms : EM (List RV)} {px py pt pos : Pos} {kt k2 pt2} (hc : X.calm = true) (hN : X.N.Nodup) (hi : X.N[i]? = some x) (hj : X.N[j]? = some y) (hij : i ≠ j)
    (hx : X.env.scope.names.lookup x = some .local) (hy : X.env.scope.names.lookup y = some .local) (ha : PA X [a, b] (rA X.K ms))
    (hw : swappedStores [.Tuple [.Name x px, .Name y py] kt pt] (.Tuple [a, b] k2 pt2) X.env = pure (some [x, y]))
    (hs : swapsWithSole [.Tuple [.Name x px, .Name y py] kt pt] (.Tuple [a, b] k2 pt2) pos.line X.env = pure false) :
    PS X (.Assign [.Tuple [.Name x px, .Name y py] kt pt] (.Tuple [a, b] k2 pt2) pos) (rS X.K (sPar [i, j] ms)) :=
  PS.mono (ps_par hc hN hi hj hij hx hy ha hw hs) fun D σ H h => by
    obtain ⟨w, S, r, rfl, s, l, o, S', h, q⟩ := h
    obtain ⟨⟨xs, S1⟩, g1, h⟩ := Option.bind_eq_some_iff.mp h
    refine ⟨w, S, r, rfl, s, l, xs, S1, g1, fun w1 vs e1 s1 rv => ?_⟩
    split at h
    · rename_i hl
      cases h
      match xs, vs, rv, hl with
      | [u, t], _, ⟨v1, _, rfl, r1, v2, _, rfl, r2, rfl⟩, _ => exact ⟨v1, v2, rfl, q w1 _ e1 s1 (((l.ext s e1).set r1).set r2)⟩
      | [], _, _, hl => exact absurd hl.1 (by simp)
      | [_], _, _, hl => exact absurd hl.1 (by simp)
      | _ :: _ :: _ :: _, _, _, hl => exact absurd hl.1 (by simp)
    · cases h
theorem ds_par3 {i j k : Nat} {x y z : Str} {a b c : Expr} {ms : EM (List RV)} {px py pz pt pos : Pos} {kt k2 pt2} (hc : X.calm = true) (hN : X.N.Nodup) (hi : X.N[i]? = some x) (hj : X.N[j]? = some y) (hk : X.N[k]? = some z) (hij : i ≠ j) (hik : i ≠ k) (hjk : j ≠ k)
    (hx : X.env.scope.names.lookup x = some .local) (hy : X.env.scope.names.lookup y = some .local) (hz : X.env.scope.names.lookup z = some .local) (ha : PA X [a, b, c] (rA X.K ms))
    (hw : swappedStores [.Tuple [.Name x px, .Name y py, .Name z pz] kt pt] (.Tuple [a, b, c] k2 pt2) X.env = pure (some [x, y, z]))
    (hs : swapsWithSole [.Tuple [.Name x px, .Name y py, .Name z pz] kt pt] (.Tuple [a, b, c] k2 pt2) pos.line X.env = pure false) :
    PS X (.Assign [.Tuple [.Name x px, .Name y py, .Name z pz] kt pt] (.Tuple [a, b, c] k2 pt2) pos) (rS X.K (sPar [i, j, k] ms)) :=
  PS.mono (ps_par3 hc hN hi hj hk hij hik hjk hx hy hz ha hw hs) fun D σ H h => by
    obtain ⟨w, S, r, rfl, s, l, o, S', h, q⟩ := h
    obtain ⟨⟨xs, S1⟩, g1, h⟩ := Option.bind_eq_some_iff.mp h
    refine ⟨w, S, r, rfl, s, l, xs, S1, g1, fun w1 vs e1 s1 rv => ?_⟩
    split at h
    · rename_i hl
      cases h
      match xs, vs, rv, hl with
      | [u, t, o], _, ⟨v1, _, rfl, r1, v2, _, rfl, r2, v3, _, rfl, r3, rfl⟩, _ => exact ⟨v1, v2, v3, rfl, q w1 _ e1 s1 ((((l.ext s e1).set r1).set r2).set r3)⟩
      | [], _, _, hl => exact absurd hl.1 (by simp)
      | [_], _, _, hl => exact absurd hl.1 (by simp)
      | [_, _], _, _, hl => exact absurd hl.1 (by simp)
      | _ :: _ :: _ :: _ :: _, _, _, hl => exact absurd hl.1 (by simp)
    · cases h
/-- names, to be stored one after the other -/
def gNs : List Nat → TGs
  | [] => gNil
  | i :: is => gCons (gName i) (gNs is)
theorem gNs_of {K : PySem.W.Frag} {w : VW} {Q : L2.St → Hp → Prop} : ∀ {is : List Nat} {xs : List RV} {vs : List V} {r : Lo} {σ : L2.St}, xs.length = is.length → RRL K w xs vs → LoR K w r σ → (∀ σ', LoR K w (setAll r is xs) σ' → Q σ' w.H) → gNs is vs σ w.H Q
  | [], [], vs, r, σ, _, rv, l, q => ⟨rv, q σ l⟩
  | [], _ :: _, _, _, _, h, _, _, _ => by cases h
  | _ :: _, [], _, _, _, h, _, _, _ => by cases h
  | i :: is, x :: xs, vs, r, σ, h, rv, l, q => by
    obtain ⟨v, vr, rfl, r1, r2⟩ := rv
    exact ⟨v, vr, rfl, gNs_of (by simpa using h) r2 (l.set r1) q⟩
theorem ds_parN {is : List Nat} {tgs es : List Expr} {ms : EM (List RV)} {pt pos : Pos} {kt k2 pt2} {n : Nat} (hc : X.calm = true) (hT : PGs X tgs (gNs is)) (ha : PA X es (rA X.K ms)) (hl : is.length = n)
    (hn : (assignEach tgs X.env).length = n) (hst : (assignEach tgs X.env).findIdx? (·.1) = none)
    (hs : swapsWithSole [.Tuple tgs kt pt] (.Tuple es k2 pt2) pos.line X.env = pure false) (hw : swappedStores [.Tuple tgs kt pt] (.Tuple es k2 pt2) X.env = pure none)
    (h1 : (assignEach [.Tuple tgs kt pt] X.env).map (·.2) = [assign (.Tuple tgs kt pt) X.env]) :
    PS X (.Assign [.Tuple tgs kt pt] (.Tuple es k2 pt2) pos) (rS X.K (sPar is ms)) :=
  PS.mono (ps_asg (pe_tup ha) (pg_tup hc hT hn hst) hs hw h1) fun D σ H h => by
    obtain ⟨w, S, r, rfl, s, l, o, S', h, q⟩ := h
    obtain ⟨⟨xs, S1⟩, g1, h⟩ := Option.bind_eq_some_iff.mp h
    split at h
    · rename_i hz
      cases h
      refine ⟨w, S, r, rfl, s, l, xs, _, g1, fun w1 vs e1 s1 rv => ?_⟩
      refine ⟨by rw [← rv.length, hz.1]; exact smallL_le hz.2, fun p hp => ?_⟩
      have e2 := Ext.new (w := w1) (u := .tup vs) (fr := false) (st := false) hp
      have s2 : StR X.K (w1.new p (.tup vs) false false) _ := s1.new (u := .tup vs) (fr := false) hp
      refine ⟨p, vs, rfl, SqT.of upd_same, by rw [← rv.length, hz.1, hl], ?_⟩
      exact gNs_of (w := w1.new p (.tup vs) false false) hz.1 (RRL.ext s1 e2 rv) ((l.ext s e1).ext s1 e2) fun σ' l' => q _ σ' (e1.trans e2) s2 l'
    · cases h
theorem dgn_nil : PGs X [] (gNs []) := pgs_nil
theorem dgn_cons {i : Nat} {is : List Nat} {x : Str} {es : List Expr} {pos : Pos} (hN : X.N.Nodup) (hi : X.N[i]? = some x) (hx : Loc X.env.scope x) (hf : X.fn x = true ∨ X.env.scope.names.lookup x = some .local) (h : PGs X es (gNs is))
    (hs : (assignEach (.Name x pos :: es) X.env).map (·.2) = assign (.Name x pos) X.env :: (assignEach es X.env).map (·.2)) : PGs X (.Name x pos :: es) (gNs (i :: is)) := pgs_cons (pg_name hN hi hx hf) h hs
end

/-! ### methods of lists -/
abbrev MM := RV → List RV → Sto → Option (RV × Sto)
def isL (S : Sto) (x : RV) : Bool := match peek S x with
  | some (.lst _) => true
  | _ => false
def eMt (c : MM) (mo : EM RV) (ms : EM (List RV)) : EM RV := fun r S => (mo r S).bind fun p => if isL p.2 p.1 = true then (ms r p.2).bind fun q => c p.1 q.1 q.2 else none
def rM (K : PySem.W.Frag) (c : MM) : V → List V → Hp → VK → Prop := fun x vs H Q => ∃ w S xo xs, w.H = H ∧ StR K w S ∧ RR K w xo x ∧ RRL K w xs vs ∧ ∃ y S', c xo xs S = some (y, S') ∧ ∀ w' v, Ext w w' → StR K w' S' → RR K w' y v → Q v w'.H
theorem isL_ty {K : PySem.W.Frag} {w : VW} {S : Sto} {x : RV} {v : V} (s : StR K w S) (h : isL S x = true) (r : RR K w x v) : tyV K "list" v w.H := by
  unfold isL at h
  split at h
  · rename_i xs e
    obtain ⟨a, vs, rfl, ha, hr⟩ := r.toW s e
    exact .inl ⟨rfl, _, SqL.of ha⟩
  · cases h
def cApp : MM
  | .ref n, [.v x], S => match S[n]? with
    | some (.lst xs) => if smallL (xs.length + 1) = true then some (.v .non, S.set n (.lst (xs ++ [x]))) else none
    | _ => none
  | _, _, _ => none
def cExt : MM
  | .ref n, [y], S => match S[n]?, peek S y with
    | some (.lst xs), some (.lst ys) => if smallL (xs.length + ys.length) = true then some (.v .non, S.set n (.lst (xs ++ ys))) else none
    | _, _ => none
  | _, _, _ => none
def cIns : MM
  | .ref n, [.v (.int i), .v x], S => match S[n]? with
    | some (.lst xs) => if smallL (xs.length + 1) && (decide (0 ≤ i) && decide (i < 2 ^ 63)) then some (.v .non, S.set n (.lst (xs.take i.toNat ++ [x] ++ xs.drop i.toNat))) else none
    | _ => none
  | _, _, _ => none
/-- the first place of an equal one -/
def findP (x : PV) : List PV → Option Nat
  | [] => none
  | y :: ys => if eqvP y x = true then some 0 else (findP x ys).map (· + 1)
def cIdx : MM := fun o as S => match peek S o, as with
  | some (.lst xs), [y] => (peek S y).bind fun y => if SeqAt.shaped (toD (.lst xs)) && SeqAt.shaped (toD y) then (findP y xs).map fun i => (.v (.int (i : Nat)), S) else none
  | _, _ => none
section
variable {K : PySem.W.Frag} {w : VW}
mutual
theorem Rep.dp : ∀ (x : PV) (v : V), (toD x).canLay0 = true → Rep K w x v → Dp K w.H v (toD x)
  | .non, v, _, h => by
    obtain rfl : v = .non := h
    exact .non
  | .bl b, v, _, h => by
    obtain rfl : v = .bl b := h
    exact .bl b
  | .int i, v, _, h => by
    obtain rfl : v = .int i := h
    exact .int i
  | .str z, v, _, h => by
    obtain rfl : v = .str z := h
    exact .str z
  | .scr ns, v, c, h => by
    unfold Rep at h
    obtain ⟨a, rfl, ha⟩ := h
    refine .lst ha.seq ?_
    have g : ∀ ns : List Int, DpAll K w.H (ns.map V.int) (ns.map PyData.int) := fun ns => by
      induction ns with
      | nil => exact .nil
      | cons n ns ih => exact .cons (.int n) ih
    exact g ns
  | .tup xs, v, c, h => by
    unfold Rep at h
    obtain ⟨a, vs, rfl, ha, hr⟩ := h
    unfold toD at c ⊢
    unfold PyData.canLay0 at c
    exact .tup (SqT.of ha) (RepL.dp xs vs c hr)
  | .lst xs, v, c, h => by
    unfold Rep at h
    obtain ⟨a, vs, rfl, _, ha, hr⟩ := h
    unfold toD at c ⊢
    unfold PyData.canLay0 at c
    exact .lst (SqL.of ha) (RepL.dp xs vs c hr)
  | .dct t ks vs, v, c, h => by
    unfold toD at c
    unfold PyData.canLay0 at c
    cases c
theorem RepL.dp : ∀ (xs : List PV) (vs : List V), PyData.canLayAll0 (toDL xs) = true → RepL K w xs vs → DpAll K w.H vs (toDL xs)
  | [], vs, _, h => by
    have e : vs = [] := h
    rw [e]
    exact .nil
  | x :: xs, vs, c, h => by
    unfold RepL at h
    obtain ⟨v, r, rfl, h1, h2⟩ := h
    unfold toDL at c ⊢
    unfold PyData.canLayAll0 at c
    rw [Bool.and_eq_true] at c
    exact .cons (Rep.dp x v c.1 h1) (RepL.dp xs r c.2 h2)
end
theorem RepW.dp {x : PV} {v : V} (c : (toD x).canLay0 = true) (h : RepW K w x v) : Dp K w.H v (toD x) := by
  cases x with
  | lst xs =>
    obtain ⟨a, vs, rfl, ha, hr⟩ := h
    unfold toD at c ⊢
    unfold PyData.canLay0 at c
    exact .lst (SqL.of ha) (RepL.dp xs vs c hr)
  | dct t ks vs =>
    unfold toD at c
    unfold PyData.canLay0 at c
    cases c
  | _ => exact Rep.dp _ v c h
end
theorem findP_some {x : PV} : ∀ {xs : List PV} {i : Nat}, findP x xs = some i → (∃ z, (toDL xs)[i]? = some z ∧ PyData.eqv z (toD x) = true) ∧ ∀ m z', m < i → (toDL xs)[m]? = some z' → PyData.eqv z' (toD x) = false
  | [], _, h => by cases h
  | y :: ys, i, h => by
    unfold findP at h
    split at h
    · rename_i hy
      cases h
      exact ⟨⟨toD y, rfl, hy⟩, fun m _ hm => by omega⟩
    · rename_i hy
      obtain ⟨j, hj, rfl⟩ := Option.map_eq_some_iff.mp h
      obtain ⟨⟨z, h1, h2⟩, h3⟩ := findP_some hj
      refine ⟨⟨z, h1, h2⟩, fun m z' hm hz => ?_⟩
      cases m with
      | zero =>
        have : toD y = z' := by simpa [toDL] using hz
        rw [← this]
        exact Bool.eq_false_iff.mpr hy
      | succ m => exact h3 m z' (by omega) (by simpa [toDL] using hz)
section
variable {X : Cx}
theorem m_app : MtR X "list.append" (rM X.K cApp) := fun pins s σ H x vs v us Q I rx rv h => mt_append pins s σ H x vs v us Q I rx rv (by
  obtain ⟨w, S, xo, xs, rfl, sr, ro, ra, y, S', h, q⟩ := h
  unfold cApp at h
  split at h
  · split at h
    · split at h
      · rename_i n x S xs hS hz
        cases h
        obtain ⟨a, ha, rfl⟩ := ro
        obtain ⟨u, hu, us', rfl, hr⟩ := sr.ob _ a _ ha hS
        obtain ⟨v1, _, rfl, rv1, rfl⟩ := ra
        have hz' := smallL_le hz
        refine ⟨a, us', v1, rfl, rfl, hu, by rw [← hr.length]; omega, ?_⟩
        obtain ⟨w', hw, e', s'⟩ := StR.write (o' := .lst (xs ++ [x])) (u := .lst (us' ++ [v1])) sr ha hS ⟨_, rfl, hr.append (RepL.one rv1)⟩
        rw [← hw]
        exact q w' .non e' s' rfl
      · cases h
    · cases h
  · cases h)
theorem m_ext : MtR X "list.extend" (rM X.K cExt) := fun pins s σ H x vs v us Q I rx rv h => mt_extend pins s σ H x vs v us Q I rx rv (by
  obtain ⟨w, S, xo, xs, rfl, sr, ro, ra, y, S', h, q⟩ := h
  unfold cExt at h
  split at h
  · split at h
    · split at h
      · rename_i n x S xs ys hS hy hz
        cases h
        obtain ⟨a, ha, rfl⟩ := ro
        obtain ⟨u, hu, us', rfl, hr⟩ := sr.ob _ a _ ha hS
        obtain ⟨v1, _, rfl, rv1, rfl⟩ := ra
        obtain ⟨b, ts, rfl, hb, hrb⟩ := rv1.toW sr hy
        have hz' := smallL_le hz
        refine ⟨a, b, us', ts, rfl, rfl, hu, hb, by rw [← hr.length, ← hrb.length]; omega, ?_⟩
        obtain ⟨w', hw, e', s'⟩ := StR.write (o' := .lst (xs ++ ys)) (u := .lst (us' ++ ts)) sr ha hS ⟨_, rfl, hr.append hrb⟩
        rw [← hw]
        exact q w' .non e' s' rfl
      · cases h
    · cases h
  · cases h)
theorem m_ins : MtR X "list.insert" (rM X.K cIns) := fun pins s σ H x vs v us Q I rx rv h => mt_insert pins s σ H x vs v us Q I rx rv (by
  obtain ⟨w, S, xo, xs, rfl, sr, ro, ra, y, S', h, q⟩ := h
  unfold cIns at h
  split at h
  · split at h
    · split at h
      · rename_i n i x S xs hS hz
        cases h
        rw [Bool.and_eq_true, Bool.and_eq_true, decide_eq_true_eq, decide_eq_true_eq] at hz
        obtain ⟨a, ha, rfl⟩ := ro
        obtain ⟨u, hu, us', rfl, hr⟩ := sr.ob _ a _ ha hS
        obtain ⟨v1, _, rfl, rv1, v2, _, rfl, rv2, rfl⟩ := ra
        obtain rfl : v1 = .int i := rv1
        have hz' := smallL_le hz.1
        refine ⟨a, us', i, v2, rfl, rfl, hu, by rw [← hr.length]; omega, hz.2.1, hz.2.2, ?_⟩
        obtain ⟨w', hw, e', s'⟩ := StR.write (o' := .lst (xs.take i.toNat ++ [x] ++ xs.drop i.toNat)) (u := .lst (us'.take i.toNat ++ [v2] ++ us'.drop i.toNat)) sr ha hS ⟨_, rfl, ((hr.take _).append (RepL.one rv2)).append (hr.drop _)⟩
        rw [← hw]
        exact q w' .non e' s' rfl
      · cases h
    · cases h
  · cases h)
theorem m_idx (hu : X.A.units + 65 < cLine) : MtR X "list.index" (rM X.K cIdx) := fun pins s σ H x vs v us Q I rx rv h => mt_indexD hu pins s σ H x vs v us Q I rx rv (by
  obtain ⟨w, S, xo, xs, rfl, sr, ro, ra, y, S', h, q⟩ := h
  unfold cIdx at h
  split at h
  · rename_i xs y hp
    obtain ⟨y', hy, h⟩ := Option.bind_eq_some_iff.mp h
    split at h
    · rename_i hz
      obtain ⟨i, hi, h⟩ := Option.map_eq_some_iff.mp h
      cases h
      rw [Bool.and_eq_true] at hz
      obtain ⟨v1, _, rfl, rv1, rfl⟩ := ra
      have d1 := RepW.dp (SeqAt.canLay_of_shaped hz.1) (ro.toW sr hp)
      have d2 := RepW.dp (SeqAt.canLay_of_shaped hz.2) (rv1.toW sr hy)
      obtain ⟨a, us', rfl, ha, hr⟩ := ro.toW sr hp
      have e0 : toD (.lst xs) = .list (toDL xs) := by unfold toD; rfl
      rw [e0] at d1 hz
      obtain ⟨⟨z, h1, h2⟩, h3⟩ := findP_some hi
      exact ⟨a, v1, toD y', toDL xs, i, z, rfl, rfl, d1, d2, hz.1, hz.2, h1, h2, h3, q w _ (Ext.refl w) sr rfl⟩
    · cases h
  · cases h)
theorem mt_read {K : PySem.W.Frag} {c : MM} {mo : EM RV} {ms : EM (List RV)} {σ : L2.St} {H : Hp} {Q : VK} (h : rE K (eMt c mo ms) σ H Q) : rE K mo σ H fun x H1 => tyV K "list" x H1 ∧ rA K ms σ H1 fun vs H2 => rM K c x vs H2 Q := by
  obtain ⟨w, S, r, rfl, s, l, y, S', h, q⟩ := h
  obtain ⟨⟨xo, S1⟩, h1, h⟩ := Option.bind_eq_some_iff.mp h
  split at h
  · rename_i hl
    obtain ⟨⟨xs, S2⟩, h2, h⟩ := Option.bind_eq_some_iff.mp h
    refine ⟨w, S, r, rfl, s, l, xo, S1, h1, fun w1 v e1 s1 rv => ⟨isL_ty s1 hl rv, w1, S1, r, rfl, s1, l.ext s e1, xs, S2, h2, fun w2 vs e2 s2 rvs => ?_⟩⟩
    exact ⟨w2, S2, xo, xs, rfl, s2, RR.ext s1 e2 rv, rvs, y, S', h, fun w3 v' e3 => q w3 v' ((e1.trans e2).trans e3)⟩
  · cases h
theorem de_mt {o e : Expr} {es : List Expr} {mo : EM RV} {ms : EM (List RV)} {c : MM} {name : Str} {apos cpos : Pos} {id : String} (slot : Slot "list" name id) (hty : typeOf (.builtin id) = pure (.type "method_descriptor")) (hm : MtR X id (rM X.K c)) (ho : PE X o (rE X.K mo)) (ha : PA X (e :: es) (rA X.K ms))
    (hbase : attributeBase o name X.env (eval o X.env) = eval o X.env)
    (hfew : ((backTo cpos (starEach (e :: es) X.env)).all (fun x => !x.1) && (backToKw cpos (keywordEach [] X.env)).all (fun x => x.1.isSome)
      && decide ((e :: es).length + ([] : List Keyword).length + (if ([] : List Keyword).isEmpty then 0 else 1) < 30)) = true)
    (hline : (apos.endLine == cpos.line) = true) (hs : starEach (e :: es) X.env = (false, eval e X.env) :: starEach es X.env) (hplain : (backTo cpos (starEach es X.env)).any (·.1) = false) :
    PE X (.Call (.Attribute o name apos) (e :: es) [] cpos) (rE X.K (eMt c mo ms)) :=
  PE.mono (pe_bm PySem.F.plainAttrs_list slot hty hm ho ha hbase hfew hline hs hplain) fun σ H Q h => mt_read h

/-! ### list(range(..)) -/
def rgl1 : List RV → Option (List PV)
  | [.v (.int j)] => if big62 j && smallL j.toNat then some (rngV 0 j.toNat) else none
  | _ => none
def rgl2 : List RV → Option (List PV)
  | [.v (.int i), .v (.int j)] => if (big62 i && big62 j) && smallL (j - i).toNat then some (rngV i (j - i).toNat) else none
  | _ => none
def rgl3 : List RV → Option (List PV)
  | [.v (.int i), .v (.int j), .v (.int c)] => if decide (c = -1) && ((big62 i && big62 j) && smallL (i - j).toNat) then some (rngC i (-1) (i - j).toNat) else none
  | _ => none
def eRl (mu : Bool) (f : List RV → Option (List PV)) (ms : EM (List RV)) : EM RV := fun r S => (ms r S).bind fun p => (f p.1).map fun ys => if mu then (.ref p.2.length, p.2 ++ [.lst ys]) else (.v (.lst ys), p.2)
theorem rl_read {K : PySem.W.Frag} {mu : Bool} {f : List RV → Option (List PV)} {ms : EM (List RV)} {σ : L2.St} {H : Hp} {Q : VK} (h : rE K (eRl mu f ms) σ H Q) :
    rA K ms σ H fun vs H1 => ∃ w S xs ys, w.H = H1 ∧ StR K w S ∧ RRL K w xs vs ∧ f xs = some ys ∧ ∀ p us, H1 p = none → RepL K w ys us → Q (.ref p) (upd H1 p (.lst us)) := by
  obtain ⟨w, S, r, rfl, s, l, y, S', h, q⟩ := h
  obtain ⟨⟨xs, S1⟩, h1, h⟩ := Option.bind_eq_some_iff.mp h
  obtain ⟨ys, h2, h⟩ := Option.map_eq_some_iff.mp h
  refine ⟨w, S, r, rfl, s, l, xs, S1, h1, fun w1 vs e1 s1 rv => ⟨w1, S1, xs, ys, rfl, s1, rv, h2, fun p us hp hu => ?_⟩⟩
  cases mu with
  | true =>
    cases h
    obtain ⟨w2, hw, e2, s2, r2⟩ := mk_ref (o := .lst ys) (u := .lst us) s1 hp ⟨us, rfl, hu⟩
    rw [← hw]
    exact q w2 _ (e1.trans e2) s2 r2
  | false =>
    cases h
    obtain ⟨w2, hw, e2, s2, r2⟩ := mk_lst s1 hp hu
    rw [← hw]
    exact q w2 _ (e1.trans e2) s2 r2
theorem rngV_rep {K : PySem.W.Frag} {w : VW} (a : Int) (n : Nat) : RepL K w (rngV a n) ((List.range n).map fun i => V.int (a + (i : Nat))) := by
  refine RepL.of_get (by simp [rngV]) fun i x v h1 h2 => ?_
  unfold rngV at h1
  rw [List.getElem?_map] at h1 h2
  obtain ⟨j, hj, rfl⟩ := Option.map_eq_some_iff.mp h1
  rw [hj] at h2
  cases h2
  rfl
theorem rngC_rep {K : PySem.W.Frag} {w : VW} (a c : Int) (n : Nat) : RepL K w (rngC a c n) ((List.range n).map fun i => V.int (a + (i : Nat) * c)) := by
  refine RepL.of_get (by simp [rngC]) fun i x v h1 h2 => ?_
  unfold rngC at h1
  rw [List.getElem?_map] at h1 h2
  obtain ⟨j, hj, rfl⟩ := Option.map_eq_some_iff.mp h1
  rw [hj] at h2
  cases h2
  rfl
variable {a b c : Expr} {ms : EM (List RV)} {ma mb : EM RV} {p pr pos posr : Pos} {mu : Bool}
theorem pe_a1 (hs : starEach [a] X.env = (false, eval a X.env) :: starEach [] X.env) (ha : PE X a (rE X.K ma)) : PA X [a] (rA X.K (aCons ma aNil)) := da_cons ha da_nil hs
theorem de_rl1 (hc : X.calm = true) (hg : Gl X "list") (hm : X.mg "list" = none) (hgr : Gl X "range") (hmr : X.mg "range" = none) (ha : PE X a (rE X.K ma)) (na : starEach [a] X.env = (false, eval a X.env) :: starEach [] X.env)
    (n2 : starEach [.Call (.Name "range" pr) [a] [] posr] X.env = (false, eval (.Call (.Name "range" pr) [a] [] posr) X.env) :: starEach [] X.env) :
    PE X (.Call (.Name "list" p) [.Call (.Name "range" pr) [a] [] posr] [] pos) (rE X.K (eRl mu rgl1 (aCons ma aNil))) :=
  PE.mono (pe_listRg hc hg hm (prg_1 hgr hmr ha na) n2) fun σ H Q h => by
    obtain ⟨w, S, r, rfl, s, l, xs, S1, h1, h⟩ := rl_read h
    obtain ⟨⟨x, S2⟩, h2, h1⟩ := Option.bind_eq_some_iff.mp h1
    cases h1
    refine ⟨w, S, r, rfl, s, l, x, S2, h2, fun w1 v e1 s1 rv => ?_⟩
    obtain ⟨w2, S2, xs, ys, hw, s2, rvs, hf, k⟩ := h w1 [v] e1 s1 ⟨v, [], rfl, rv, rfl⟩
    unfold rgl1 at hf
    split at hf
    · split at hf
      · rename_i j hz
        cases hf
        obtain ⟨u, _, e, ru, e'⟩ := rvs
        cases e
        obtain rfl : v = .int j := ru
        rw [Bool.and_eq_true] at hz
        obtain ⟨b1, b2⟩ := big62_of hz.1
        have b3 : j.toNat ≤ 1000000 := of_decide_eq_true hz.2
        refine ⟨j, rfl, ⟨by omega, by omega, b1, b2, by omega⟩, fun q hq => k q _ hq ?_⟩
        unfold rgV
        rw [Int.sub_zero]
        exact rngV_rep 0 _
      · cases hf
    · cases hf
theorem de_rl2 (hc : X.calm = true) (hg : Gl X "list") (hm : X.mg "list" = none) (hgr : Gl X "range") (hmr : X.mg "range" = none) (ha : PE X a (rE X.K ma)) (hb : PE X b (rE X.K mb)) (na : starEach [a, b] X.env = (false, eval a X.env) :: starEach [b] X.env)
    (nb : starEach [b] X.env = (false, eval b X.env) :: starEach [] X.env) (hp : (backTo posr (starEach [b] X.env)).any (·.1) = false)
    (n2 : starEach [.Call (.Name "range" pr) [a, b] [] posr] X.env = (false, eval (.Call (.Name "range" pr) [a, b] [] posr) X.env) :: starEach [] X.env) :
    PE X (.Call (.Name "list" p) [.Call (.Name "range" pr) [a, b] [] posr] [] pos) (rE X.K (eRl mu rgl2 (aCons ma (aCons mb aNil)))) :=
  PE.mono (pe_listRg hc hg hm (prg_2 hgr hmr ha hb na nb hp) n2) fun σ H Q h => by
    obtain ⟨w, S, r, rfl, s, l, xs, S1, h1, h⟩ := rl_read h
    obtain ⟨⟨x, S2⟩, h2, h1⟩ := Option.bind_eq_some_iff.mp h1
    obtain ⟨⟨ys, S3⟩, h3, h1⟩ := Option.map_eq_some_iff.mp h1
    cases h1
    obtain ⟨⟨y, S4⟩, h4, h3⟩ := Option.bind_eq_some_iff.mp h3
    cases h3
    refine ⟨w, S, r, rfl, s, l, x, S2, h2, fun w1 v e1 s1 rv => ?_⟩
    refine ⟨w1, S2, r, rfl, s1, l.ext s e1, y, S4, h4, fun w2 v2 e2 s2 rv2 => ?_⟩
    obtain ⟨w3, S3, xs, ys, hw, s3, rvs, hf, k⟩ := h w2 [v, v2] (e1.trans e2) s2 ⟨v, [v2], rfl, RR.ext s1 e2 rv, v2, [], rfl, rv2, rfl⟩
    unfold rgl2 at hf
    split at hf
    · split at hf
      · rename_i i j hz
        cases hf
        obtain ⟨u, _, e, ru, u2, _, e', ru2, e''⟩ := rvs
        cases e
        cases e'
        obtain rfl : v = .int i := ru
        obtain rfl : v2 = .int j := ru2
        rw [Bool.and_eq_true, Bool.and_eq_true] at hz
        obtain ⟨b1, b2⟩ := big62_of hz.1.1
        obtain ⟨b3, b4⟩ := big62_of hz.1.2
        have b5 : (j - i).toNat ≤ 1000000 := of_decide_eq_true hz.2
        exact ⟨i, j, rfl, rfl, ⟨b1, b2, b3, b4, by omega⟩, fun q hq => k q _ hq (rngV_rep i _)⟩
      · cases hf
    · cases hf
theorem vals_rgC {a c : Int} {n : Nat} {acc : Array Value} (h : ItemsOf (fun i v => ∃ t, v = .int (a + i * c) t) acc n) : Vals ((List.range n).map fun i => V.int (a + (i : Nat) * c)) acc.toList := by
  have e : acc.toList.length = n := by rw [Array.length_toList]; exact h.1
  rw [← e]
  refine vals_of_get acc.toList _ fun j u hj => ?_
  obtain ⟨t, rfl⟩ := h.2 j u (by rw [← hj, Array.getElem?_toList])
  exact ⟨t, rfl⟩
/-- a range down by one, whatever its parts -/
theorem de_rl3 (hc : X.calm = true) (hg : Gl X "list") (hm : X.mg "list" = none) (hgr : Gl X "range") (hmr : X.mg "range" = none) (ha : PA X [a, b, c] (rA X.K ms)) (hs : starEach [a, b, c] X.env = (false, eval a X.env) :: starEach [b, c] X.env) (hpl : (backTo posr (starEach [b, c] X.env)).any (·.1) = false)
    (n2 : starEach [.Call (.Name "range" pr) [a, b, c] [] posr] X.env = (false, eval (.Call (.Name "range" pr) [a, b, c] [] posr) X.env) :: starEach [] X.env) :
    PE X (.Call (.Name "list" p) [.Call (.Name "range" pr) [a, b, c] [] posr] [] pos) (rE X.K (eRl mu rgl3 ms)) := by
  refine ⟨fun pins s σ H Q I h => ?_⟩
  refine Call_ (ld_blt I hg hm boot_list (PyProof.Rows.callWith_type1 (args_cons (Call_ (ld_blt I hgr hmr boot_range (PyProof.Rows.callWith_type1 (thn (ha.run posr pins s σ H _ I (rl_read h)) ?_) hs hpl))) n2) n2))
  rintro us s1 ⟨vs, H1, I1, r1, w, S, xs, ys, hw, sr, rvs, hf, k⟩
  unfold rgl3 at hf
  split at hf
  · split at hf
    · rename_i i j c hz
      cases hf
      obtain ⟨v1, _, rfl, ru1, v2, _, rfl, ru2, v3, _, rfl, ru3, rfl⟩ := rvs
      obtain rfl : v1 = .int i := ru1
      obtain rfl : v2 = .int j := ru2
      obtain rfl : v3 = .int c := ru3
      rw [Bool.and_eq_true, Bool.and_eq_true, Bool.and_eq_true, decide_eq_true_eq] at hz
      obtain ⟨rfl, ⟨z1, z2⟩, z3⟩ := hz
      obtain ⟨b1, b2⟩ := big62_of z1
      obtain ⟨b3, b4⟩ := big62_of z2
      have b5 : (i - j).toNat ≤ 1000000 := of_decide_eq_true z3
      cases r1 with
      | cons q1 rr =>
        cases rr with
        | cons q2 rr =>
          cases rr with
          | cons q3 rr =>
            cases rr
            obtain ⟨t1, rfl⟩ := q1
            obtain ⟨t2, rfl⟩ := q2
            obtain ⟨t3, rfl⟩ := q3
            refine call_range_3 (by decide) ?_ (.inl (PyProof.noPylong_small (by decide)))
            refine args_nil ?_
            have I2 : Inv X pins σ H1 { s1 with heap := s1.heap.push { cls := .type "range", data := .fields #[.int i t1, .int j t2, .int (-1) t3] } } := I1.kept (t' := s1.toks) fun b o e => Heap.get?_push_of_some _ e
            refine call_list_range (n := (i - j).toNat) (I1.ok.hd hc) (IsRange.new ..) (PySem.W.small_down b1 b2 b3 b4) (PySem.W.rangeSize_downNat i j) (by omega) fun h' tk acc c' hk e' hi => ?_
            refine ⟨.ref _, upd H1 _ (.lst ((List.range (i - j).toNat).map fun m => V.int (i + (m : Nat) * (-1)))), I2.laid hk (Nat.le_refl _) (show ObjOk X.prog X.w _ _ _ (.lst _) from ⟨?_, acc.toList, c', vals_rgC hi, ?_⟩), rfl, k _ _ (I2.hok.fresh (Nat.le_refl _)) (rngC_rep i (-1) _)⟩
            · rw [List.length_map, List.length_range, sizeLine_eq]
              omega
            · rw [Array.toArray_toList]
              exact e'
    · cases hf
  · cases hf
end
end Dn

/-! Dn 13: repr; sorted. -/
namespace Dn
open PySem PySem.Spec PyProof.Rows L2

/-! ### what may be shown -/
mutual
def showP : PV → Bool
  | .non | .bl _ => true
  | .int i => decide (i.natAbs.log2 < 1920)
  | .str x => x.cps.toList.all fun c => decide (c < 16 ^ 8)
  | .tup xs => showL xs
  | .lst xs => showL xs
  | .dct _ ks vs => decide (ks.length = vs.length) && (showL ks && showL vs)
  | .scr _ => false
def showL : List PV → Bool
  | [] => true
  | x :: xs => showP x && showL xs
end
mutual
def bulkP : PV → Nat
  | .non | .bl _ | .int _ => 0
  | .str x => x.cps.size
  | .tup xs => bulkL xs
  | .lst xs => bulkL xs
  | .dct _ ks vs => bulkL ks + bulkL vs
  | .scr _ => 0
def bulkL : List PV → Nat
  | [] => 0
  | x :: xs => bulkP x + 1 + bulkL xs
end
mutual
theorem show_toD : ∀ x : PV, showP x = true → (toD x).showable = true ∧ (toD x).leavesShort 1921 = true ∧ (toD x).bulk = bulkP x
  | .non, _ => ⟨rfl, rfl, rfl⟩
  | .bl _, _ => ⟨rfl, rfl, rfl⟩
  | .int i, h => by
    unfold showP at h
    rw [decide_eq_true_eq] at h
    refine ⟨?_, ?_, rfl⟩
    · unfold toD PyData.showable
      exact decide_eq_true h
    · unfold toD PyData.leavesShort
      exact decide_eq_true (int_text_len_1921 h)
  | .str x, h => by
    unfold showP at h
    exact ⟨rfl, h, rfl⟩
  | .tup xs, h => by
    unfold showP at h
    obtain ⟨h1, h2, h3⟩ := show_toDL xs h
    unfold toD PyData.showable PyData.leavesShort PyData.bulk bulkP
    exact ⟨h1, h2, h3⟩
  | .lst xs, h => by
    unfold showP at h
    obtain ⟨h1, h2, h3⟩ := show_toDL xs h
    unfold toD PyData.showable PyData.leavesShort PyData.bulk bulkP
    exact ⟨h1, h2, h3⟩
  | .dct t ks vs, h => by
    unfold showP at h
    rw [Bool.and_eq_true, Bool.and_eq_true, decide_eq_true_eq] at h
    obtain ⟨hl, hk, hv⟩ := h
    obtain ⟨a1, a2, a3⟩ := show_toDL ks hk
    obtain ⟨b1, b2, b3⟩ := show_toDL vs hv
    unfold toD PyData.showable PyData.leavesShort PyData.bulk bulkP
    have g : ∀ (as bs : List PyData), as.length = bs.length → PyData.showableAll as = true → PyData.showableAll bs = true → PyData.leavesShortAll 1921 as = true → PyData.leavesShortAll 1921 bs = true →
        PyData.showableKv (as.zip bs) = true ∧ PyData.leavesShortKv 1921 (as.zip bs) = true ∧ PyData.bulkKv (as.zip bs) = PyData.bulkAll as + PyData.bulkAll bs := by
      intro as
      induction as with
      | nil =>
        intro bs hl _ _ _ _
        cases bs with
        | nil => exact ⟨rfl, rfl, rfl⟩
        | cons _ _ => cases hl
      | cons a as ih =>
        intro bs hl p1 p2 p3 p4
        cases bs with
        | nil => cases hl
        | cons b bs =>
          unfold PyData.showableAll at p1 p2
          unfold PyData.leavesShortAll at p3 p4
          rw [Bool.and_eq_true] at p1 p2 p3 p4
          obtain ⟨q1, q2, q3⟩ := ih bs (by simpa using hl) p1.2 p2.2 p3.2 p4.2
          rw [List.zip_cons_cons]
          unfold PyData.showableKv PyData.leavesShortKv PyData.bulkKv PyData.bulkAll
          rw [p1.1, p2.1, p3.1, p4.1, q1, q2, q3]
          refine ⟨rfl, rfl, ?_⟩
          omega
    have len : ∀ xs : List PV, (toDL xs).length = xs.length := fun xs => by
      induction xs with
      | nil => rfl
      | cons x xs ih =>
        show (toDL xs).length + 1 = xs.length + 1
        rw [ih]
    obtain ⟨g1, g2, g3⟩ := g (toDL ks) (toDL vs) (by rw [len, len, hl]) a1 b1 a2 b2
    exact ⟨g1, g2, by rw [g3, a3, b3]⟩
  | .scr _, h => by unfold showP at h; cases h
theorem show_toDL : ∀ xs : List PV, showL xs = true → PyData.showableAll (toDL xs) = true ∧ PyData.leavesShortAll 1921 (toDL xs) = true ∧ PyData.bulkAll (toDL xs) = bulkL xs
  | [], _ => ⟨rfl, rfl, rfl⟩
  | x :: xs, h => by
    unfold showL at h
    rw [Bool.and_eq_true] at h
    obtain ⟨a1, a2, a3⟩ := show_toD x h.1
    obtain ⟨b1, b2, b3⟩ := show_toDL xs h.2
    unfold toDL PyData.showableAll PyData.leavesShortAll PyData.bulkAll bulkL
    rw [a1, a2, a3, b1, b2, b3]
    exact ⟨rfl, rfl, rfl⟩
end
theorem depKv_zip : ∀ (as bs : List PyData), PyData.depthKv (as.zip bs) ≤ max (PyData.depthAll as) (PyData.depthAll bs)
  | [], _ => by unfold PyData.depthKv; exact Nat.zero_le _
  | _ :: _, [] => by unfold PyData.depthKv; exact Nat.zero_le _
  | a :: as, b :: bs => by
    have := depKv_zip as bs
    rw [List.zip_cons_cons]
    unfold PyData.depthKv PyData.depthAll
    omega
mutual
theorem dep_le : ∀ x : PV, (toD x).depth ≤ dep x
  | .non => Nat.le_refl _
  | .bl _ => Nat.le_refl _
  | .int _ => Nat.le_refl _
  | .str _ => Nat.le_refl _
  | .tup xs => by
    have := depL_le xs
    unfold toD dep PyData.depth
    omega
  | .lst xs => by
    have := depL_le xs
    unfold toD dep PyData.depth
    omega
  | .dct t ks vs => by
    have h1 := depL_le ks
    have h2 := depL_le vs
    have h3 := depKv_zip (toDL ks) (toDL vs)
    unfold toD dep PyData.depth
    omega
  | .scr ns => by
    have g : ∀ ns : List Int, PyData.depthAll (ns.map PyData.int) = 0 := fun ns => by
      induction ns with
      | nil => unfold PyData.depthAll; rfl
      | cons n ns ih =>
        rw [List.map_cons]
        unfold PyData.depthAll
        rw [ih]
        rfl
    unfold toD dep PyData.depth
    rw [g]
    exact Nat.le_refl _
theorem depL_le : ∀ xs : List PV, PyData.depthAll (toDL xs) ≤ depL xs
  | [] => by unfold toDL PyData.depthAll depL; exact Nat.le_refl _
  | x :: xs => by
    have h1 := dep_le x
    have h2 := depL_le xs
    unfold toDL PyData.depthAll depL
    omega
end
/-- sys.modules' own dict, as the top left it -/
def SysK (K : PySem.W.Frag) : Prop := ∃ o, K.lookup sysModules = some o ∧ o.cls ≠ .type "list"
section
variable {X : Cx} {pins : List (Addr × Obj)} {s : Shared} {σ : L2.St} {w : VW}
theorem not_sys {K : PySem.W.Frag} {h : Heap} (k : K.In h) (hs : SysK K) {a : Addr} {o : Obj} (ho : h.get? a = some o) (hc : o.cls = .type "list") : a ≠ sysModules := by
  rintro rfl
  obtain ⟨o', e, hn⟩ := hs
  have := k _ _ e
  rw [this] at ho
  cases ho
  exact hn hc
/-- a dict's entries, as values that are read -/
theorem dct_entries (I : Inv X pins σ w.H s) {t : Bool} {ks vs : List PV} {a : Addr} {u : HO} (hrd : Rd w.H a u) (hd : DRep (RepL X.K w) t ks vs u) :
    (a == sysModules) = false ∧ ∃ (o : Obj) (es : Array DictEntry) (n : Nat) (kv : List V) (vv : List V), s.heap.get? a = some o ∧ o.cls = .type "dict" ∧ o.data = .dict es n ∧ RepL X.K w ks kv ∧ Vals kv (es.toList.map (·.key)) ∧ RepL X.K w vs vv ∧ Vals vv (es.toList.map (·.val)) := by
  rcases hd with ⟨rfl, kvs, rfl, rfl, hr⟩ | ⟨rfl, kvs, rfl, rfl, hr⟩
  · obtain ⟨z, hn, ws, rel, o, es, ep, ho, hx, hdt, _, hp, _⟩ := dk_rd I.hok hrd
    refine ⟨hn, o, es, ep, kvs.map fun p => kV p.1, kvs.map (·.2), ho, hx.1, hdt, ?_, ?_, hr, ?_⟩
    · have g : ∀ kvs : List (Key × V), RepL X.K w (kvs.map fun p => keyPV p.1) (kvs.map fun p => kV p.1) := fun kvs => by
        induction kvs with
        | nil => unfold RepL; rfl
        | cons p kvs ih =>
          rw [List.map_cons, List.map_cons]
          unfold RepL
          refine ⟨_, _, rfl, ?_, ih⟩
          cases p.1 <;> rfl
      exact g kvs
    · clear hr ho hdt hx hrd z
      have g : ∀ {es : List DictEntry} {ws : List (Key × Value)} {kvs : List (Key × V)}, Pairs (mixKind X.prog X.w) es ws → KV kvs ws → Vals (kvs.map fun p => kV p.1) (es.map (·.key)) := by
        intro es ws kvs hp
        induction hp generalizing kvs with
        | nil =>
          intro rel
          cases rel
          exact .nil
        | cons h1 h2 h3 ih =>
          intro rel
          cases rel with
          | cons r1 r2 =>
            refine .cons ?_ (ih r2)
            dsimp only
            rw [r1.1]
            rcases keyIs_shape (show keyIs _ _ = true from h1) with ⟨i, t, e1, e2⟩ | ⟨x, t, e1, e2⟩
            · rw [e1, e2]
              exact ⟨t, rfl⟩
            · rw [e1, e2]
              exact ⟨t, rfl⟩
      exact g hp rel
    · have g : ∀ {es : List DictEntry} {ws : List (Key × Value)} {kvs : List (Key × V)}, Pairs (mixKind X.prog X.w) es ws → KV kvs ws → Vals (kvs.map (·.2)) (es.map (·.val)) := by
        intro es ws kvs hp
        induction hp generalizing kvs with
        | nil =>
          intro rel
          cases rel
          exact .nil
        | cons h1 h2 h3 ih =>
          intro rel
          cases rel with
          | cons r1 r2 =>
            refine .cons ?_ (ih r2)
            dsimp only
            rw [h2]
            exact r1.2
      exact g hp rel
  · obtain ⟨z, hn, xs, rel, o, es, ep, ho, hx, hdt, he, _, _⟩ := dt_rd I.hok hrd
    refine ⟨hn, o, es, ep, xs.map fun x => V.ref x.2.1, kvs.map (·.2), ho, hx.1, hdt, ?_, ?_, hr, ?_⟩
    · clear hr ho hdt hx hrd z he
      have g : ∀ {kvs : List (List Key × V)} {xs : List (List Key × Addr × Value)}, KT w.H kvs xs → RepL X.K w (kvs.map fun p => PV.tup (p.1.map keyPV)) (xs.map fun x => V.ref x.2.1) := by
        intro kvs xs rel
        induction rel with
        | nil => unfold RepL; rfl
        | cons h t ih =>
          rename_i p q ps qs
          rw [List.map_cons, List.map_cons]
          unfold RepL
          refine ⟨_, _, rfl, ?_, ih⟩
          unfold Rep
          refine ⟨_, _, rfl, h.2.1, ?_⟩
          have k : ∀ ks : List Key, RepL X.K w (ks.map keyPV) (ks.map kV) := fun ks => by
            induction ks with
            | nil => unfold RepL; rfl
            | cons c ks ih =>
              rw [List.map_cons, List.map_cons]
              unfold RepL
              refine ⟨_, _, rfl, ?_, ih⟩
              cases c <;> rfl
          exact k p.1
      exact g rel
    · rw [he, List.map_map]
      have g : ∀ xs : List (List Key × Addr × Value), Vals (xs.map fun x => V.ref x.2.1) (xs.map ((·.key) ∘ entryOfKey (tupleKind (mixKind X.prog X.w)))) := fun xs => by
        induction xs with
        | nil => exact .nil
        | cons x xs ih => exact .cons rfl ih
      exact g xs
    · rw [he, List.map_map]
      clear hr ho hdt hx hrd z he
      have g : ∀ {kvs : List (List Key × V)} {xs : List (List Key × Addr × Value)}, KT w.H kvs xs → Vals (kvs.map (·.2)) (xs.map ((·.val) ∘ entryOfKey (tupleKind (mixKind X.prog X.w)))) := by
        intro kvs xs rel
        induction rel with
        | nil => exact .nil
        | cons h t ih => exact .cons h.2.2 ih
      exact g rel
theorem toDL_length (xs : List PV) : (toDL xs).length = xs.length := by
  induction xs with
  | nil => rfl
  | cons x xs ih =>
    show (toDL xs).length + 1 = xs.length + 1
    rw [ih]
theorem zip_fst {α β : Type} : ∀ (as : List α) (bs : List β), as.length = bs.length → (as.zip bs).map (·.1) = as
  | [], _, _ => rfl
  | a :: as, b :: bs, h => by
    rw [List.zip_cons_cons, List.map_cons, zip_fst as bs (by simpa using h)]
  | a :: as, [], h => by cases h
theorem zip_snd {α β : Type} : ∀ (as : List α) (bs : List β), as.length = bs.length → (as.zip bs).map (·.2) = bs
  | [], [], _ => rfl
  | a :: as, b :: bs, h => by
    rw [List.zip_cons_cons, List.map_cons, zip_snd as bs (by simpa using h)]
  | a :: as, [], h => by cases h
  | [], b :: bs, h => by cases h
theorem DRep.lens {K : PySem.W.Frag} {w : VW} {t : Bool} {ks vs : List PV} {u : HO} (hd : DRep (RepL K w) t ks vs u) : ks.length = vs.length := by
  rcases hd with ⟨rfl, kvs, rfl, rfl, hr⟩ | ⟨rfl, kvs, rfl, rfl, hr⟩
  · rw [hr.length, List.length_map, List.length_map]
  · rw [hr.length, List.length_map, List.length_map]
mutual
theorem Rep.rd (hs : SysK X.K) (I : Inv X pins σ w.H s) : ∀ (x : PV) (v : V) (u : Value), showP x = true → Rep X.K w x v → RelV v u → ∃ as, Reads s.heap u (toD x) as ∧ sysModules ∉ as
  | .non, _, _, _, h, r => by
    unfold Rep at h
    subst h
    cases r
    exact ⟨_, Reads.none, by simp⟩
  | .bl b, _, _, _, h, r => by
    unfold Rep at h
    subst h
    cases r
    exact ⟨_, Reads.bool b, by simp⟩
  | .int i, _, _, _, h, r => by
    unfold Rep at h
    subst h
    obtain ⟨t, rfl⟩ := r
    exact ⟨_, Reads.int i t, by simp⟩
  | .str x, _, _, _, h, r => by
    unfold Rep at h
    subst h
    obtain ⟨t, rfl⟩ := r
    exact ⟨_, Reads.str x t, by simp⟩
  | .lst xs, _, _, p, h, r => by
    unfold Rep at h
    obtain ⟨a, vs, rfl, _, h1, h2⟩ := h
    cases r
    obtain ⟨its, rv, ⟨o, n, ho, hc, _, hd⟩, _⟩ := I.list (SqL.of (K := X.K) h1)
    obtain ⟨as, hr, hn⟩ := RepL.rd hs I xs vs its (by unfold showP at p; exact p) h2 rv
    refine ⟨_, by unfold toD; exact Reads.list ho hc hd hr, fun m => ?_⟩
    rcases List.mem_cons.mp m with m | m
    · exact not_sys I.kIn hs ho hc m.symm
    · exact hn m
  | .tup xs, _, _, p, h, r => by
    unfold Rep at h
    obtain ⟨a, vs, rfl, h1, h2⟩ := h
    cases r
    obtain ⟨its, rv, ⟨o, ho, hc, n, hd⟩, _⟩ := I.tuple (SqT.of (K := X.K) h1)
    obtain ⟨as, hr, hn⟩ := RepL.rd hs I xs vs its (by unfold showP at p; exact p) h2 rv
    exact ⟨_, by unfold toD; exact Reads.tuple ho hc hd hr, hn⟩
  | .dct t ks vs, _, _, p, h, r => by
    unfold Rep at h
    obtain ⟨a, u, rfl, _, hrd, hd⟩ := h
    have hd' : DRep (RepL X.K w) t ks vs u := hd
    cases r
    unfold showP at p
    rw [Bool.and_eq_true, Bool.and_eq_true, decide_eq_true_eq] at p
    obtain ⟨hl, pk, pv⟩ := p
    obtain ⟨hn, o, es, n, kv, vv, ho, hc, hdt, rk, vk, rv, vvl⟩ := dct_entries I hrd hd'
    obtain ⟨as, h1, n1⟩ := RepL.rd hs I ks kv _ pk rk vk
    obtain ⟨bs, h2, n2⟩ := RepL.rd hs I vs vv _ pv rv vvl
    refine ⟨_, by
      unfold toD
      refine Reads.dict ho hc hdt (as := as) (bs := bs) ?_ ?_
      · rw [zip_fst _ _ (by rw [toDL_length, toDL_length, hl])]
        exact h1
      · rw [zip_snd _ _ (by rw [toDL_length, toDL_length, hl])]
        exact h2, fun m => ?_⟩
    rcases List.mem_append.mp m with m | m
    · rcases List.mem_cons.mp m with m | m
      · subst m
        simp at hn
      · exact n1 m
    · exact n2 m
  | .scr _, _, _, p, _, _ => by unfold showP at p; cases p
theorem RepL.rd (hs : SysK X.K) (I : Inv X pins σ w.H s) : ∀ (xs : List PV) (vs : List V) (us : List Value), showL xs = true → RepL X.K w xs vs → Vals vs us → ∃ as, ReadsAll s.heap us (toDL xs) as ∧ sysModules ∉ as
  | [], _, _, _, h, r => by
    unfold RepL at h
    subst h
    cases r
    exact ⟨_, ReadsAll.nil, by simp⟩
  | x :: xs, _, _, p, h, r => by
    unfold RepL at h
    obtain ⟨v, vr, rfl, h1, h2⟩ := h
    unfold showL at p
    obtain ⟨p1, p2⟩ := Bool.and_eq_true_iff.mp p
    cases r with
    | cons r1 r2 =>
      obtain ⟨as, q1, n1⟩ := Rep.rd hs I x v _ p1 h1 r1
      obtain ⟨bs, q2, n2⟩ := RepL.rd hs I xs vr _ p2 h2 r2
      refine ⟨_, by unfold toDL; exact ReadsAll.cons q1 q2, fun m => ?_⟩
      rcases List.mem_append.mp m with m | m
      · exact n1 m
      · exact n2 m
end
theorem RepW.rd (hs : SysK X.K) (I : Inv X pins σ w.H s) {x : PV} {v : V} {u : Value} (p : showP x = true) (h : RepW X.K w x v) (r : RelV v u) : ∃ as, Reads s.heap u (toD x) as ∧ sysModules ∉ as := by
  cases x with
  | lst xs =>
    obtain ⟨a, vs, rfl, h1, h2⟩ := h
    cases r
    obtain ⟨its, rv, ⟨o, n, ho, hc, _, hd⟩, _⟩ := I.list (SqL.of (K := X.K) h1)
    obtain ⟨as, hr, hn⟩ := RepL.rd hs I xs vs its (by unfold showP at p; exact p) h2 rv
    refine ⟨_, by unfold toD; exact Reads.list ho hc hd hr, fun m => ?_⟩
    rcases List.mem_cons.mp m with m | m
    · exact not_sys I.kIn hs ho hc m.symm
    · exact hn m
  | dct t ks vs =>
    obtain ⟨a, u, rfl, hrd, hd⟩ := h
    cases r
    unfold showP at p
    rw [Bool.and_eq_true, Bool.and_eq_true, decide_eq_true_eq] at p
    obtain ⟨hl, pk, pv⟩ := p
    obtain ⟨hn, o, es, n, kv, vv, ho, hc, hdt, rk, vk, rv, vvl⟩ := dct_entries I hrd hd
    obtain ⟨as, h1, n1⟩ := RepL.rd hs I ks kv _ pk rk vk
    obtain ⟨bs, h2, n2⟩ := RepL.rd hs I vs vv _ pv rv vvl
    refine ⟨_, by
      unfold toD
      refine Reads.dict ho hc hdt (as := as) (bs := bs) ?_ ?_
      · rw [zip_fst _ _ (by rw [toDL_length, toDL_length, hl])]
        exact h1
      · rw [zip_snd _ _ (by rw [toDL_length, toDL_length, hl])]
        exact h2, fun m => ?_⟩
    rcases List.mem_append.mp m with m | m
    · rcases List.mem_cons.mp m with m | m
      · subst m
        simp at hn
      · exact n1 m
    · exact n2 m
  | scr ns => unfold showP at p; cases p
  | non => exact Rep.rd hs I _ v u p h r
  | bl b => exact Rep.rd hs I _ v u p h r
  | int i => exact Rep.rd hs I _ v u p h r
  | str x => exact Rep.rd hs I _ v u p h r
  | tup xs => exact Rep.rd hs I _ v u p h r

/-! ### repr -/
def okR (x : PV) : Bool := showP x && (decide (bulkP x ≤ 8000) && decide (dep x ≤ 50))
def repP (x : PV) : Str := (toD x).shown
def repG : List PV → Option PV
  | [x] => if okR x = true then some (.str (repP x)) else none
  | _ => none
theorem cr_repG (hs : SysK X.K) (hg : X.A.guards = some []) (hu : X.A.units + 64 < cLine) : CallR X (.builtin "repr") (rP X.K repG) := by
  intro pins s σ H xs us Q I r h
  obtain ⟨w, S, ys, z, rfl, sr, rw', hq, q⟩ := h
  unfold repG at hq
  split at hq
  · rename_i x
    split at hq
    · rename_i ok
      cases hq
      unfold okR at ok
      rw [Bool.and_eq_true, Bool.and_eq_true, decide_eq_true_eq, decide_eq_true_eq] at ok
      obtain ⟨o1, o2, o3⟩ := ok
      obtain ⟨v, r', rfl, rx, rfl⟩ := rw'
      obtain ⟨u, rfl, ru⟩ := vals1 r
      obtain ⟨s1, s2, s3⟩ := show_toD x o1
      obtain ⟨as, hr, hn⟩ := RepW.rd hs I o1 rx ru
      have hz : (toD x).shown.length ≤ sizeLine := by
        have := PyData.shown_le_bulk 1921 (by decide) (toD x) s2
        rw [s3] at this
        rw [sizeLine_eq]
        have h2 : (1921 + 2) * bulkP x ≤ 1923 * 8000 := Nat.mul_le_mul (by decide) o2
        omega
      have hdp := dep_le x
      have fin : ∀ t, ∀ s' : Shared, Inv X pins σ w.H s' → EP X pins σ Q (.str (toD x).shown t) s' := fun t s' I' => ⟨.str (repP x), w.H, I', ⟨t, rfl⟩, q w _ (Ext.refl w) sr rfl⟩
      have big : ∀ a, u = .ref a → wpAny (model X.prog X.w) X.A (call (.builtin "repr") [u]) (EP X pins σ Q) X.xe s := fun a e => by
        subst e
        exact PySem.repr_of_reads' hr s1 (fun _ => hn) hg (by omega) (fun _ _ e => e) (fun h' t tk k => fin t _ (I.kept k)) hz
      cases x with
      | non =>
        have hu : u = .none := by
          cases hr
          rfl
        rw [hu]
        exact PySem.P.repr_of_none (fin _ _ (I.tok _))
      | bl b =>
        have hu : u = .bool b := by
          cases hr
          rfl
        rw [hu]
        exact PySem.P.repr_of_bool (by cases b <;> exact fin _ _ (I.tok _))
      | int i =>
        obtain ⟨t, rfl⟩ : ∃ t, u = .int i t := by
          cases hr
          exact ⟨_, rfl⟩
        exact PySem.P.repr_of_int (of_decide_eq_true (show decide (i.natAbs.log2 < 1920) = true by unfold showP at o1; exact o1)) (fin _ _ (I.tok _))
      | str y =>
        obtain ⟨t, rfl⟩ : ∃ t, u = .str y t := by
          cases hr
          exact ⟨_, rfl⟩
        exact PySem.P.repr_of_str (fin _ _ (I.tok _)) hz
      | tup xs =>
        unfold toD at hr
        cases hr
        exact big _ rfl
      | lst xs =>
        unfold toD at hr
        cases hr
        exact big _ rfl
      | dct t ks vs =>
        unfold toD at hr
        cases hr
        exact big _ rfl
      | scr ns => unfold showP at o1; cases o1
    · cases hq
  · cases hq
end
end Dn

/-! Dn 14: sorted. -/
namespace Dn
open PySem PySem.Spec PyProof.Rows L2
open PySem.W (EachIs dataLe AllAlike Sortable alike)

def sortP (xs : List PV) : List PV := xs.mergeSort (dataLe false toD)
def tup1 : PV → Bool
  | .tup (_ :: _) => true
  | _ => false
def notTN : PV → Bool
  | .tup _ => false
  | .non => false
  | _ => true
def sortOk (xs : List PV) : Bool := (plainL xs && (decide (depL xs ≤ 50) && smallL xs.length)) && ((xs.all fun a => xs.all fun b => alike (toD a) (toD b)) && (xs.all tup1 || xs.all notTN))
def sortG : List PV → Option PV
  | [.lst xs] => if sortOk xs = true then some (.lst (sortP xs)) else none
  | [.dct _ ks _] => if sortOk ks = true then some (.lst (sortP ks)) else none
  | _ => none
theorem sortG_l (ys : List PV) (z : PV) (h : sortG ys = some z) : ∃ zs, z = .lst zs := by
  unfold sortG at h
  split at h
  · split at h
    · cases h
      exact ⟨_, rfl⟩
    · cases h
  · split at h
    · cases h
      exact ⟨_, rfl⟩
    · cases h
  · cases h
theorem depL_mem : ∀ {xs : List PV} {x : PV}, x ∈ xs → dep x ≤ depL xs
  | y :: ys, x, h => by
    unfold depL
    rcases List.mem_cons.mp h with rfl | h
    · omega
    · have := depL_mem h
      omega
theorem plainL_mem : ∀ {xs : List PV} {x : PV}, plainL xs = true → x ∈ xs → plainP x = true
  | y :: ys, x, p, h => by
    unfold plainL at p
    rw [Bool.and_eq_true] at p
    rcases List.mem_cons.mp h with rfl | h
    · exact p.1
    · exact plainL_mem p.2 h
theorem sortOk_of {xs : List PV} (h : sortOk xs = true) : plainL xs = true ∧ depL xs ≤ 50 ∧ xs.length ≤ 1000000 ∧ AllAlike (xs.map toD) ∧ Sortable (xs.map toD) := by
  unfold sortOk at h
  simp only [Bool.and_eq_true, Bool.or_eq_true, decide_eq_true_eq, List.all_eq_true] at h
  obtain ⟨⟨h1, h2, h3⟩, h4, h5⟩ := h
  refine ⟨h1, h2, of_decide_eq_true h3, ?_, ?_⟩
  · intro d hd d' hd'
    obtain ⟨x, hx, rfl⟩ := List.mem_map.mp hd
    obtain ⟨y, hy, rfl⟩ := List.mem_map.mp hd'
    exact h4 x hx y hy
  · rcases h5 with h5 | h5
    · refine .inl fun d hd => ?_
      obtain ⟨x, hx, rfl⟩ := List.mem_map.mp hd
      have := h5 x hx
      unfold tup1 at this
      split at this
      · exact ⟨_, _, by unfold toD toDL; rfl⟩
      · cases this
    · refine .inr fun d hd => ?_
      obtain ⟨x, hx, rfl⟩ := List.mem_map.mp hd
      have := h5 x hx
      cases x with
      | non => cases this
      | tup xs => cases this
      | _ =>
        unfold toD
        exact ⟨fun e => (by cases e), fun ys e => (by cases e)⟩
section
variable {X : Cx} {pins : List (Addr × Obj)} {s : Shared} {σ : L2.St} {w : VW}
/-- a Python value that stands for this value -/
def Is (K : PySem.W.Frag) (w : VW) (u : Value) (x : PV) : Prop := ∃ v, Rep K w x v ∧ RelV v u
theorem each_is {K : PySem.W.Frag} : ∀ {xs : List PV} {vs : List V} {us : List Value}, RepL K w xs vs → Vals vs us → EachIs (Is K w) us xs
  | [], vs, us, h, r => by
    unfold RepL at h
    subst h
    cases r
    exact .nil
  | x :: xs, vs, us, h, r => by
    unfold RepL at h
    obtain ⟨v, vr, rfl, h1, h2⟩ := h
    cases r with
    | cons r1 r2 => exact .cons ⟨v, h1, r1⟩ (each_is h2 r2)
theorem is_each {K : PySem.W.Frag} : ∀ {xs : List PV} {us : List Value}, EachIs (Is K w) us xs → ∃ vs, RepL K w xs vs ∧ Vals vs us
  | [], _, .nil => ⟨[], by unfold RepL; rfl, .nil⟩
  | x :: xs, _, .cons ⟨v, h1, r1⟩ t => by
    obtain ⟨vs, h2, r2⟩ := is_each t
    exact ⟨v :: vs, by unfold RepL; exact ⟨v, vs, rfl, h1, h2⟩, .cons r1 r2⟩
theorem each_rd (I : Inv X pins σ w.H s) : ∀ {xs : List PV} {us : List Value}, plainL xs = true → EachIs (Is X.K w) us xs → EachIs (fun v x => ∃ as, Reads s.heap v (toD x) as) us xs
  | [], _, _, .nil => .nil
  | x :: xs, _, p, .cons ⟨v, h1, r1⟩ t => by
    unfold plainL at p
    rw [Bool.and_eq_true] at p
    exact .cons (Rep.reads I x v _ p.1 h1 r1) (each_rd I p.2 t)
theorem vals_len {xs : List PV} {us : List Value} {K : PySem.W.Frag} (e : EachIs (Is K w) us xs) : us.length = xs.length := e.length
theorem sortP_length (xs : List PV) : (sortP xs).length = xs.length := by
  unfold sortP
  exact (List.mergeSort_perm _ _).length_eq
/-- the keys of a dict, collected and sorted -/
theorem sorted_src {A : Addr} {n : Nat} {T : String} {r d : Addr} {P : Nat → Value → Prop} {OK : Heap → Prop} {Q : Value → Shared → Prop} {E : Value → Shared → Prop} {xs : List PV} (I : Inv X pins σ w.H s) (hh : X.A.handled = none) (hu : X.A.units + 64 < cLine)
    (Ks : PySem.W.KdlSrc X.prog X.w T r d n P OK) (hok : OK s.heap) (hn : n ≤ sizeLine) (hx : sortOk xs = true)
    (hP : ∀ acc : Array Value, ItemsOf P acc n → EachIs (Is X.K w) acc.toList xs)
    (h : ∀ (us : List V) (p : Addr) (s' : Shared), RepL X.K w (sortP xs) us → w.H p = none → Inv X pins σ (upd w.H p (.lst us)) s' → Q (.ref p) s') :
    wpAny (model X.prog X.w) X.A (call (.builtin "sorted") [.ref r]) Q E s := by
  obtain ⟨o1, o2, o3, o4, o5⟩ := sortOk_of hx
  refine Calls.call_function_entry PyProof.Rows.kind_sorted PyProof.Rows.plain_sorted PyProof.Rows.entry_sorted (PyProof.Rows.args_sorted1 _) ?_
  unfold Builtin.«sorted»
  refine wpAny_bind (m := checkCount "sorted" 1 1 _) (wpAny_pure (wpAny_bind (PySem.W.kdu_collect (A := X.A.in1) Ks hh hok hn fun h' tk acc hk hacc => ?_)))
  have e := hP acc hacc
  have I1 : Inv X pins σ w.H { s with heap := h', toks := tk } := I.kept hk
  have hal : acc.toList.length ≤ sizeLine := by
    rw [e.length, sizeLine_eq]
    omega
  refine wpAny_bind (wpAny_newList ?_ hal)
  have hoL : (h'.push (seqObj "list" acc.toList.toArray 0)).get? h'.objs.size = some (seqObj "list" acc.toList.toArray 0) := Heap.get?_push_size _ rfl
  show wpAny _ _ _ _ _ { s with heap := h'.push (seqObj "list" acc.toList.toArray 0), toks := tk }
  have er := each_rd I1 o1 e
  have old : ∀ b o, h'.get? b = some o → (PySem.W.sortingHeap (h'.push (seqObj "list" acc.toList.toArray 0)) h'.objs.size acc.toList).get? b = some o := fun b o eb => PySem.W.sortingHeap_old (Nat.ne_of_lt (Heap.lt_size eb)) (Heap.get?_push_of_some _ eb)
  have er' : EachIs (fun v x => ∃ as, Reads (PySem.W.sortingHeap (h'.push (seqObj "list" acc.toList.toArray 0)) h'.objs.size acc.toList) v (toD x) as) acc.toList xs := er.mono fun _ _ ⟨as, r⟩ => ⟨as, PyProof.Rows.Reads.keeps old r⟩
  have S := PySem.W.SortsAt.data (prog := X.prog) (w := X.w) (A := X.A.in1.in1) (s := { s with heap := PySem.W.sortingHeap (h'.push (seqObj "list" acc.toList.toArray 0)) h'.objs.size acc.toList, toks := tk })
    (PySem.W.each_map (R := fun v d => ∃ as, Reads (PySem.W.sortingHeap (h'.push (seqObj "list" acc.toList.toArray 0)) h'.objs.size acc.toList) v d as) toD er') o4 o5 (fun q hq => by
      obtain ⟨x, hxm, rfl⟩ := List.mem_map.mp hq
      have h1 := dep_le x
      have h2 := depL_mem hxm
      show X.A.units + 1 + 1 + (toD x).depth < cLine
      omega)
  refine wpAny_bind (wpAny_holding (wpAny_call_entry PyProof.Rows.slot_list_sort ⟨_, hoL, rfl⟩ PyProof.Rows.entry_list_sort
    (PySem.W.list_sort_vals (s := { s with heap := h'.push (seqObj "list" acc.toList.toArray 0), toks := tk }) hoL S hal ⟨_, rfl, ?_⟩) (PyProof.Rows.args_list_sort _)))
  have eo := PySem.W.sortVals_data false e er' o4
  obtain ⟨e', he'⟩ := PyProof.Rows.sortedHeap_at (vs := acc.toList) (out := (PySem.W.sortVals (PySem.W.dataKind (PySem.W.sortingHeap (h'.push (seqObj "list" acc.toList.toArray 0)) h'.objs.size acc.toList) (xs.map toD)) false acc.toList acc.toList).toArray) hoL
  obtain ⟨vs', hr', hv'⟩ := is_each eo
  have hlen : vs'.length ≤ sizeLine := by
    have : (sortP xs).length = vs'.length := hr'.length
    rw [← this, sortP_length, sizeLine_eq]
    omega
  refine wpAny_pure ⟨_, rfl, h vs' h'.objs.size _ hr' (I1.hok.fresh (Nat.le_refl _)) (I1.laid (t' := tk) (fun b u e => ?_) (Nat.le_refl _) (show ObjOk X.prog X.w _ _ _ (.lst vs') from ⟨hlen, _, e', hv', he'⟩))⟩
  have hb : b < h'.objs.size := Heap.lt_size e
  rw [PyProof.Rows.sortedHeap_old (Nat.ne_of_lt hb) (by rw [size_push']; exact Nat.lt_succ_of_lt hb)]
  exact Heap.get?_push_of_some _ e
theorem cr_sortG (hc : X.calm = true) (hu : X.A.units + 64 < cLine) : CallR X (.builtin "sorted") (rPN X.K sortG) := by
  intro pins s σ H xs us Q I r h
  obtain ⟨w, S, ys, z, rfl, sr, rw', hq, q⟩ := h
  unfold sortG at hq
  split at hq
  · rename_i xs
    split at hq
    · rename_i hx
      cases hq
      obtain ⟨v, r', rfl, ⟨a, vs, rfl, ha, hr⟩, rfl⟩ := rw'
      obtain ⟨o1, o2, o3, o4, o5⟩ := sortOk_of hx
      obtain ⟨its, rv, pl, hz⟩ := I.list (SqL.of (K := X.K) ha)
      rw [Vals.ref1 r]
      have e := each_is hr rv
      refine PySem.W.sorted_data pl.isList e (each_rd I o1 e) o4 o5 (by rw [sizeLine_eq]; omega) (fun x hxm => ?_) fun out ho eo => ?_
      · have h1 := dep_le x
        have h2 := depL_mem hxm
        omega
      · obtain ⟨vs', hr', hv'⟩ := is_each eo
        obtain ⟨ep, he'⟩ := PyProof.Rows.sortedAll_at s.heap its out.toArray
        have hlen : vs'.length ≤ sizeLine := by
          have : (sortP xs).length = vs'.length := hr'.length
          rw [← this, sortP_length, sizeLine_eq]
          omega
        exact ⟨.ref _, upd w.H (s.heap.objs.size + 1) (.lst vs'), I.laid (t' := s.toks) (fun _ _ => PyProof.Rows.sortedAll_old) (Nat.le_succ _) ⟨hlen, out, ep, hv', he'⟩, rfl, q _ vs' (I.hok.fresh (Nat.le_succ _)) hr'⟩
    · cases hq
  · rename_i t ks vs
    split at hq
    · rename_i hx
      cases hq
      obtain ⟨v, r', rfl, ⟨a, u, rfl, hrd, hd⟩, rfl⟩ := rw'
      obtain ⟨o1, o2, o3, o4, o5⟩ := sortOk_of hx
      rw [Vals.ref1 r]
      obtain ⟨hn, o, es, n, kv, vv, ho, hcl, hdt, rk, vk, rv, vvl⟩ := dct_entries I hrd hd
      have hx' : o.ExactDict := by
        rcases hd with ⟨rfl, kvs, rfl, rfl, hr⟩ | ⟨rfl, kvs, rfl, rfl, hr⟩
        · obtain ⟨_, _, _, _, o', _, _, ho', hx', _⟩ := dk_rd I.hok hrd
          rw [ho] at ho'
          cases ho'
          exact hx'
        · obtain ⟨_, _, _, _, o', _, _, ho', hx', _⟩ := dt_rd I.hok hrd
          rw [ho] at ho'
          cases ho'
          exact hx'
      have hes : es.size = ks.length := by
        have h1 := rk.length
        have h2 : kv.length = (es.toList.map (·.key)).length := vk.length
        rw [List.length_map] at h2
        have h3 : es.toList.length = es.size := Array.length_toList
        omega
      refine sorted_src (A := a) I (I.ok.hd hc) hu (kdl_raw hn hx' hdt) ho (by rw [hes, sizeLine_eq]; omega) hx (fun acc it => ?_) fun us p s' hr' hp I' => ⟨.ref p, _, I', rfl, q p us hp hr'⟩
      have ea : acc.toList = es.toList.map (·.key) := by
        have hl : acc.toList.length = es.size := by rw [Array.length_toList, it.1]
        apply List.ext_getElem?
        intro j
        rw [List.getElem?_map]
        cases hj : acc.toList[j]? with
        | none =>
          have h1 := List.getElem?_eq_none_iff.mp hj
          rw [List.getElem?_eq_none (by rw [Array.length_toList]; omega)]
          rfl
        | some v =>
          obtain ⟨en, hen, hv⟩ := it.2 j v (by rw [← Array.getElem?_toList]; exact hj)
          rw [Array.getElem?_toList, hen, hv]
          rfl
      rw [ea]
      exact each_is rk vk
    · cases hq
  · cases hq
end
end Dn

/-! Dn 15: the law's own call; the top. -/
namespace Dn
open PySem PySem.Spec PyProof.Rows L2

/-- the heap in which the script alone may be told -/
structure Scr1 (P : Program) (wd : World) (K : PySem.W.Frag) (H : Hp) (q : Addr) (t : Shared) (ns : List Int) : Prop where
  scr : ScrR K H q ns
  ok : HOk P wd H t.heap
  one : ∀ c, H c ≠ none → c = q ∧ K.lookup q = none ∧ ∃ o us, H c = some (.frz o (.lst us))
theorem scr1_of {P : Program} {wd : World} {K : PySem.W.Frag} {q : Addr} {t : Shared} {us : List Value} {ns : List Int} (inK : K.In t.heap) (at_ : t.heap.get? q = some { cls := .type "list", data := .seq us.toArray }) (nums : IntsAre us ns) (few : ns.length ≤ sizeLine) :
    ∃ H : Hp, Scr1 P wd K H q t ns := by
  have told := vals_ints nums
  have same := nums.length
  cases look : K.lookup q with
  | some ob =>
    have eq1 := (inK q ob look).symm.trans at_
    cases eq1
    refine ⟨fun _ => none, .inr fun H' => .inr ⟨_, _, _, look, rfl, rfl, rfl, ?_, ?_⟩, fun c u z => (nomatch z), fun c z => absurd rfl z⟩
    · rw [List.size_toArray, same]
      exact few
    · simpa using told
  | none =>
    have only : ∀ {c : Addr} {u : HO}, (if c = q then some (HO.frz { cls := .type "list", data := .seq us.toArray } (.lst (ns.map V.int))) else none) = some u → c = q ∧ u = HO.frz { cls := .type "list", data := .seq us.toArray } (.lst (ns.map V.int)) := by
      intro c u z
      split at z
      · rename_i hc
        cases z
        exact ⟨hc, rfl⟩
      · cases z
    refine ⟨fun c => if c = q then some (.frz { cls := .type "list", data := .seq us.toArray } (.lst (ns.map V.int))) else none, .inl ⟨_, if_pos rfl⟩, fun c u z => ?_, fun c z => ?_⟩
    · obtain ⟨rfl, rfl⟩ := only z
      refine ⟨at_, ?_, us, _, told, at_⟩
      rw [List.length_map]
      exact few
    · obtain ⟨u, hu⟩ := Option.ne_none_iff_exists'.mp z
      obtain ⟨rfl, rfl⟩ := only hu
      exact ⟨rfl, look, _, _, hu⟩
theorem law_go {P : Program} {wd : World} {K : PySem.W.Frag} {mg mb : Str → Option Value} {j : Nat} {g q : Addr} {fd : FuncData} {p : Str} {c : CM} {t : Shared} {us : List Value} {ns : List Int}
    (inK : K.In t.heap) (top : t.heap.Ns mainGlobals mg) (blt : t.heap.Ns builtinsNs mb) (bltIs : ∀ n : Str, n ≠ "__name__" → mb n = bootBuiltins n) (free : t.heap.NoLimit) (noGen : t.gens = #[])
    (at_ : t.heap.get? q = some { cls := .type "list", data := .seq us.toArray }) (nums : IntsAre us ns) (few : ns.length ≤ sizeLine) (room : Room j callerA)
    (F : ∀ base : Heap, K.In base → base.Ns mainGlobals mg → FnG P wd K mg base j g fd [p] (spF K 1 c)) (bind : ∀ (s : Shared) (u : Value), BindsTo s fd ⟨[u], []⟩ [(p, u)])
    (holds : ∃ S', c [.v (.scr ns)] [] = some (.v (.bl true), S')) :
    codeAny (model P wd) callerA (.call (.ref g) ⟨[.ref q], []⟩) (fun r s' => r = .ok (.ret (.bool true)) ∧ OldK t.heap s'.heap ∧ s'.os = t.os ∧ AllBare s'.gens) t := by
  obtain ⟨H, told⟩ := scr1_of (P := P) (wd := wd) inK at_ nums few
  have away : ∀ {d : Addr} {ob : Obj}, t.heap.get? d = some ob → (∀ es n, ob.data = .dict es n → H d = none) := by
    intro d ob hd es n hdt
    cases look : H d with
    | none => rfl
    | some u =>
      obtain ⟨rfl, _, _⟩ := told.one d (by rw [look]; simp)
      have z := at_.symm.trans hd
      cases z
      cases hdt
  have nsB : ∀ {d : Addr} {m : Str → Option Value}, t.heap.Ns d m → (hidT t.heap H).Ns d m := by
    rintro d m ⟨ob, es, n, h1, h2, h3⟩
    exact ⟨ob, es, n, hidT_get h1 (away h1 es n h2), h2, h3⟩
  have kB : K.In (hidT t.heap H) := by
    intro d ob hd
    refine hidT_get (inK d ob hd) ?_
    cases look : H d with
    | none => rfl
    | some u =>
      obtain ⟨rfl, z, _⟩ := told.one d (by rw [look]; simp)
      rw [z] at hd
      cases hd
  obtain ⟨lim, l1, l2⟩ := free
  have env : Env0 P wd K mg (hidT t.heap H) callerA [] t H :=
    { frames := rfl, mod := ⟨kB, nsB top, ⟨mb, nsB blt, bltIs⟩, lim, nsB l1, l2⟩, bs := fun d ob z => of_hidT z, bsz := Nat.le_of_eq (hidT_size _ _), funs := trivial, frf := fun d z => (by cases z), hok := told.ok, bare := .of_eq noGen }
  obtain ⟨S', hc⟩ := holds
  have begun : spF K 1 c [.ref q] H (fun v _ => v = .bl true) fun _ _ _ => False := by
    refine ⟨⟨fun _ => False, [], H⟩, [], [.v (.scr ns)], rfl, ⟨rfl, List.nodup_nil, fun _ z => (nomatch z), fun _ z => (show False from z).elim, fun n d o z => by simp at z⟩, ⟨.ref q, [], rfl, ?_, rfl⟩, rfl, _, S', hc, fun w' v _ _ r => r⟩
    unfold RR Rep
    exact ⟨q, rfl, told.scr⟩
  refine codeAny_mono ((F _ kB (nsB top)).run callerA [] t H ⟨[.ref q], []⟩ [.ref q] [.ref q] _ (fun _ _ _ => False) room rfl env (bind t (.ref q)) (.cons rfl .nil) begun) ?_
  rintro (e | fl) s' hq
  · exact (show False from hq).elim
  · cases fl with
    | ret u =>
      obtain ⟨v, H2, sameOs, bare2, kept, ok2, rv, isT⟩ := hq
      obtain rfl : v = V.bl true := isT
      obtain rfl : u = Value.bool true := rv
      refine ⟨rfl, OldK.of_keep ?_, sameOs, bare2⟩
      intro d ob hd
      cases look : H d with
      | none => exact kept.keep d ob hd look (fun z => by cases z) (by simp)
      | some u =>
        obtain ⟨_, _, o2, us2, z⟩ := told.one d (by rw [look]; simp)
        obtain ⟨y1, _⟩ := told.ok d _ z
        obtain ⟨y2, _⟩ := ok2 d _ (kept.frzs d o2 _ z)
        have y3 := y1.symm.trans hd
        cases y3
        exact y2
    | next => exact (show False from hq).elim
    | brk => exact (show False from hq).elim
    | cont => exact (show False from hq).elim
/-- the goal that the head leaves, from the meaning of the law's def -/
theorem walk_go {l : PySem.W.OpenLaw} {m j : Nat} {q : Program} {loose : List Str} {XP : (Str → Option Value) → Heap → Prop} {YP : World → Heap → Prop} {d : DefRec} {p : Str} {c : CM}
    (most : l.most = some m) (few : m ≤ sizeLine) (noD : d.params.defaults = []) (room : Room j callerA)
    (F : ∀ (wd : World) (mg : Str → Option Value) (g : Addr) (h : Heap), YP wd h → h.Ns mainGlobals mg → mg d.name = some (.ref g) →
      ∃ (K : PySem.W.Frag) (fd : FuncData), K.In h ∧ (∀ (s : Shared) (u : Value), BindsTo s fd ⟨[u], []⟩ [(p, u)]) ∧ ∀ base : Heap, K.In base → base.Ns mainGlobals mg → FnG l.prog wd K mg base j g fd [p] (spF K 1 c))
    (holds : ∀ ns : List Int, ns.length ≤ m → (∀ k ∈ ns, Builtin.Int.intBits k ≤ 1048576) → ∃ S', c [.v (.scr ns)] [] = some (.v (.bl true), S')) :
    PySem.W.WalkO q loose XP YP l.row.toRowW d [] (fun f vs => PySem.call f vs) :=
  Att.attach_callB most noD fun wd _ t mg mb g _ _ _ _ q us ns gr y _ _ _ hmg at_ nums len bits noGen => by
    obtain ⟨K, fd, inK, bind, hF⟩ := F wd mg g _ y gr.T.g hmg
    exact law_go inK gr.T.g gr.T.b gr.T.builtins gr.T.nolimit noGen at_ nums (Nat.le_trans len few) room hF bind (holds ns len bits)

/-! ### the top -/
def frK (n : Nat) (g : Addr → Option Obj) : PySem.W.Frag := He.frG g (sysModules :: He.asD g n)
def sysB (K : PySem.W.Frag) : Bool := match K.lookup sysModules with
  | some o => decide (o.cls = .type "dict")
  | none => false
theorem sysB_ok {K : PySem.W.Frag} (h : sysB K = true) : SysK K := by
  unfold sysB at h
  split at h
  · rename_i o e
    refine ⟨o, e, fun z => ?_⟩
    rw [of_decide_eq_true h] at z
    exact absurd z (by decide)
  · cases h
def bltB (K : PySem.W.Frag) (p : Str × String) : Bool := He.eqO (PySem.W.nsIn K mainGlobals p.1) (some (some (.builtin p.2)))
abbrev AlK : Type := Bool × He.AlD
def obsK (bl : List (Str × String)) (fa : List He.Fa) (fn : List He.DefD) (K : PySem.W.Frag) : AlK := (sysB K && bl.all (bltB K), He.obsD fa fn K)
def SaysK (bl : List (Str × String)) (fa : List He.Fa) (fn : List He.DefD) (K : PySem.W.Frag) : Prop := obsK bl fa fn K = (true, He.valD fn)
def hookK (n : Nat) (bl : List (Str × String)) (fa : List He.Fa) (fn : List He.DefD) : PySem.W.Hook where
  α := AlK
  obs := fun s => obsK bl fa fn (frK n s.heap.get?)
  val := fun _ => (true, He.valD fn)
  says := fun _ h => ∃ K : PySem.W.Frag, K.In h ∧ SaysK bl fa fn K
  of := fun _ _ e => ⟨_, He.frG_in, e⟩
  keeps := fun _ _ _ ⟨K, hK, c⟩ k => ⟨K, PySem.W.Frag.In.keeps hK k, c⟩
def obsKG (n : Nat) (bl : List (Str × String)) (fa : List He.Fa) (fn : List He.DefD) (g : Addr → Option Obj) : AlK := obsK bl fa fn (frK n g)
theorem obsKG_eq {n : Nat} {bl : List (Str × String)} {fa : List He.Fa} {fn : List He.DefD} {g : Addr → Option Obj} {s : Shared} (h : ∀ a, g a = s.heap.get? a) : obsKG n bl fa fn g = (hookK n bl fa fn).obs s := by
  obtain rfl : g = s.heap.get? := funext h
  rfl
section
variable {bl : List (Str × String)} {fa : List He.Fa} {fn : List He.DefD} {K : PySem.W.Frag} {h : Heap} {mg : Str → Option Value}
theorem SaysK.d (c : SaysK bl fa fn K) : He.SaysD fa fn K := congrArg Prod.snd c
theorem SaysK.sys (c : SaysK bl fa fn K) : SysK K := sysB_ok (Bool.and_eq_true_iff.mp (congrArg Prod.fst c)).1
theorem SaysK.blt (c : SaysK bl fa fn K) (inK : K.In h) (top : h.Ns mainGlobals mg) {p : Str × String} (m : p ∈ bl) : mg p.1 = some (.builtin p.2) := by
  have h1 := List.all_eq_true.mp (Bool.and_eq_true_iff.mp (congrArg Prod.fst c)).2 p m
  exact PySem.W.mg_of inK top (He.eqO_ok h1)
end
end Dn

/-! Dn 16: what a meaning gives, from behind. -/
namespace Dn
open PySem PySem.Spec PyProof.Rows L2

/-- m gives something, and Q holds of it -/
def W {α : Type} (m : EM α) (r : Lo) (S : Sto) (Q : α → Sto → Prop) : Prop := ∃ x S', m r S = some (x, S') ∧ Q x S'
def WC (c : CM) (xs : List RV) (S : Sto) (Q : RV → Sto → Prop) : Prop := ∃ y S', c xs S = some (y, S') ∧ Q y S'
/-- an operation by values -/
def G (g : PV → PV → Option PV) (x y : PV) (Q : PV → Prop) : Prop := ∃ z, g x y = some z ∧ Q z
def GL (g : List PV → Option PV) (xs : List PV) (Q : PV → Prop) : Prop := ∃ z, g xs = some z ∧ Q z
def WG (g : GM) (x : RV) (r : Lo) (S : Sto) (Q : Lo → Sto → Prop) : Prop := ∃ r' S', g x r S = some (r', S') ∧ Q r' S'
def WGs (g : GsM) (xs : List PV) (r : Lo) (S : Sto) (Q : Lo → Sto → Prop) : Prop := ∃ r' S', g xs r S = some (r', S') ∧ Q r' S'
def WF (src : List (Nat × SO)) (g : GM) (body : SM) (xs : List PV) (r : Lo) (S : Sto) (Q : Out → Sto → Prop) : Prop := ∃ o S', forL src g body xs r S = some (o, S') ∧ Q o S'
def WL (src : List (Nat × SO)) (g : GM) (mt : EM Bool) (me : EM RV) (r : Lo) (xs : List PV) (S : Sto) (Q : List PV → Sto → Prop) : Prop := ∃ zs S', lcL src g mt me r xs S = some (zs, S') ∧ Q zs S'
def P (S : Sto) (x : RV) (Q : PV → Prop) : Prop := ∃ y, peek S x = some y ∧ Q y
theorem W.mono {α : Type} {m : EM α} {r : Lo} {S : Sto} {Q Q' : α → Sto → Prop} (h : W m r S Q) (f : ∀ x S', Q x S' → Q' x S') : W m r S Q' := let ⟨x, S', a, b⟩ := h; ⟨x, S', a, f x S' b⟩
theorem WC.mono {c : CM} {xs : List RV} {S : Sto} {Q Q' : RV → Sto → Prop} (h : WC c xs S Q) (f : ∀ x S', Q x S' → Q' x S') : WC c xs S Q' := let ⟨x, S', a, b⟩ := h; ⟨x, S', a, f x S' b⟩
theorem WF.mono {src : List (Nat × SO)} {g : GM} {body : SM} {xs : List PV} {r : Lo} {S : Sto} {Q Q' : Out → Sto → Prop} (h : WF src g body xs r S Q) (f : ∀ x S', Q x S' → Q' x S') : WF src g body xs r S Q' := let ⟨x, S', a, b⟩ := h; ⟨x, S', a, f x S' b⟩
theorem WL.mono {src : List (Nat × SO)} {g : GM} {mt : EM Bool} {me : EM RV} {r : Lo} {xs : List PV} {S : Sto} {Q Q' : List PV → Sto → Prop} (h : WL src g mt me r xs S Q) (f : ∀ x S', Q x S' → Q' x S') : WL src g mt me r xs S Q' := let ⟨x, S', a, b⟩ := h; ⟨x, S', a, f x S' b⟩
theorem WC.of {c : CM} {xs : List RV} {S : Sto} {y : RV} {S' : Sto} {Q : RV → Sto → Prop} (h : c xs S = some (y, S')) (q : Q y S') : WC c xs S Q := ⟨y, S', h, q⟩
theorem bind_some {α β : Type} {a : Option α} {f : α → Option β} {P : β → Prop} : (∃ z, a.bind f = some z ∧ P z) ↔ ∃ y, a = some y ∧ ∃ z, f y = some z ∧ P z := by
  cases a with
  | none => simp
  | some y => simp
theorem pair_ex {α β : Type} {a : Option (α × β)} {P : α → β → Prop} : (∃ x y, a = some (x, y) ∧ P x y) ↔ ∃ p : α × β, a = some p ∧ P p.1 p.2 := ⟨fun ⟨x, y, h, q⟩ => ⟨(x, y), h, q⟩, fun ⟨p, h, q⟩ => ⟨p.1, p.2, h, q⟩⟩
section
variable {r : Lo} {S : Sto} {Q : RV → Sto → Prop} {QT : Bool → Sto → Prop} {QA : List RV → Sto → Prop} {QS : Out → Sto → Prop} {QI : Itm → Sto → Prop} {QL : Lo → Sto → Prop} {QP : PV → Prop}
theorem w_var {i : Nat} : W (eVar i) r S Q ↔ ∃ x, r[i]? = some (some x) ∧ Q x S := by
  constructor
  · rintro ⟨x, S', h, q⟩
    obtain ⟨h', e⟩ := eVar_some h
    subst e
    exact ⟨x, h', q⟩
  · rintro ⟨x, h, q⟩
    exact ⟨x, S, by unfold eVar; rw [h], q⟩
theorem w_c {x : PV} : W (eC x) r S Q ↔ Q (.v x) S := ⟨fun ⟨_, _, h, q⟩ => by cases h; exact q, fun q => ⟨_, _, rfl, q⟩⟩
theorem w_e2 {g : PV → PV → Option PV} {ma mb : EM RV} : W (e2 g ma mb) r S Q ↔ W ma r S fun x S1 => W mb r S1 fun y S2 => P S2 x fun px => P S2 y fun py => G g px py fun z => Q (.v z) S2 := by
  constructor
  · rintro ⟨x, S', h, q⟩
    obtain ⟨xa, Sa, xb, px, py, z, h1, h2, h3, h4, h5, rfl⟩ := e2_some h
    exact ⟨xa, Sa, h1, xb, S', h2, px, h3, py, h4, z, h5, q⟩
  · rintro ⟨xa, Sa, h1, xb, S', h2, px, h3, py, h4, z, h5, q⟩
    refine ⟨.v z, S', ?_, q⟩
    unfold e2
    rw [h1]
    show ((mb r Sa).bind _) = _
    rw [h2]
    show ((peek S' xa).bind _) = _
    rw [h3]
    show ((peek S' xb).bind _) = _
    rw [h4]
    show ((g px py).map _) = _
    rw [h5]
    rfl
theorem w_e1 {g : PV → Option PV} {ma : EM RV} : W (e1 g ma) r S Q ↔ W ma r S fun x S1 => P S1 x fun px => ∃ z, g px = some z ∧ Q (.v z) S1 := by
  constructor
  · rintro ⟨x, S', h, q⟩
    obtain ⟨xa, px, z, h1, h2, h3, rfl⟩ := e1_some h
    exact ⟨xa, S', h1, px, h2, z, h3, q⟩
  · rintro ⟨xa, S', h1, px, h2, z, h3, q⟩
    refine ⟨.v z, S', ?_, q⟩
    unfold e1
    rw [h1]
    show ((peek S' xa).bind _) = _
    rw [h2]
    show ((g px).map _) = _
    rw [h3]
    rfl
theorem p_v {x : PV} {QP : PV → Prop} : P S (.v x) QP ↔ QP x := ⟨fun ⟨_, h, q⟩ => by cases h; exact q, fun q => ⟨x, rfl, q⟩⟩
theorem p_ref {n : Nat} {QP : PV → Prop} : P S (.ref n) QP ↔ ∃ o, S[n]? = some o ∧ ∃ y, o.pv = some y ∧ QP y := by
  constructor
  · rintro ⟨y, h, q⟩
    obtain ⟨o, h1, h2⟩ := Option.bind_eq_some_iff.mp h
    exact ⟨o, h1, y, h2, q⟩
  · rintro ⟨o, h1, y, h2, q⟩
    exact ⟨y, Option.bind_eq_some_iff.mpr ⟨o, h1, h2⟩, q⟩
theorem wt_B {m : EM RV} : W (tB m) r S QT ↔ W m r S fun x S1 => ∃ b, x = .v (.bl b) ∧ QT b S1 := by
  constructor
  · rintro ⟨b, S', h, q⟩
    exact ⟨_, S', tB_some h, b, rfl, q⟩
  · rintro ⟨_, S', h, b, rfl, q⟩
    refine ⟨b, S', ?_, q⟩
    unfold tB
    rw [h]
    rfl
theorem wt_N {m : EM Bool} : W (tN m) r S QT ↔ W m r S fun b S1 => QT (!b) S1 := by
  constructor
  · rintro ⟨b, S', h, q⟩
    obtain ⟨⟨c, S2⟩, h1, h⟩ := Option.map_eq_some_iff.mp h
    cases h
    exact ⟨c, _, h1, q⟩
  · rintro ⟨c, S', h, q⟩
    exact ⟨_, S', by unfold tN; rw [h]; rfl, q⟩
theorem wt_An {m n : EM Bool} : W (tAn m n) r S QT ↔ W m r S fun b S1 => if b = true then W n r S1 QT else QT false S1 := by
  constructor
  · rintro ⟨b, S', h, q⟩
    obtain ⟨⟨c, S1⟩, h1, h⟩ := Option.bind_eq_some_iff.mp h
    refine ⟨c, S1, h1, ?_⟩
    cases c with
    | true => exact ⟨b, S', h, q⟩
    | false =>
      cases h
      exact q
  · rintro ⟨c, S1, h1, q⟩
    cases c with
    | true =>
      obtain ⟨b, S', h, q⟩ := q
      exact ⟨b, S', by unfold tAn; rw [h1]; exact h, q⟩
    | false => exact ⟨false, S1, by unfold tAn; rw [h1]; rfl, q⟩
theorem wt_Or {m n : EM Bool} : W (tOr m n) r S QT ↔ W m r S fun b S1 => if b = true then QT true S1 else W n r S1 QT := by
  constructor
  · rintro ⟨b, S', h, q⟩
    obtain ⟨⟨c, S1⟩, h1, h⟩ := Option.bind_eq_some_iff.mp h
    refine ⟨c, S1, h1, ?_⟩
    cases c with
    | false => exact ⟨b, S', h, q⟩
    | true =>
      cases h
      exact q
  · rintro ⟨c, S1, h1, q⟩
    cases c with
    | false =>
      obtain ⟨b, S', h, q⟩ := q
      exact ⟨b, S', by unfold tOr; rw [h1]; exact h, q⟩
    | true => exact ⟨true, S1, by unfold tOr; rw [h1]; rfl, q⟩
theorem wt_Ye : W tYe r S QT ↔ QT true S := ⟨fun ⟨_, _, h, q⟩ => by cases h; exact q, fun q => ⟨_, _, rfl, q⟩⟩
theorem w_Bo {m : EM Bool} : W (eBo m) r S Q ↔ W m r S fun b S1 => Q (.v (.bl b)) S1 := by
  constructor
  · rintro ⟨x, S', h, q⟩
    obtain ⟨⟨c, S2⟩, h1, h⟩ := Option.map_eq_some_iff.mp h
    cases h
    exact ⟨c, _, h1, q⟩
  · rintro ⟨c, S', h, q⟩
    exact ⟨_, S', by unfold eBo; rw [h]; rfl, q⟩
theorem w_An {m n : EM RV} : W (eAn m n) r S Q ↔ W (tB m) r S fun b S1 => if b = true then W n r S1 Q else Q (.v (.bl false)) S1 := by
  constructor
  · rintro ⟨b, S', h, q⟩
    obtain ⟨⟨c, S1⟩, h1, h⟩ := Option.bind_eq_some_iff.mp h
    refine ⟨c, S1, h1, ?_⟩
    cases c with
    | true => exact ⟨b, S', h, q⟩
    | false =>
      cases h
      exact q
  · rintro ⟨c, S1, h1, q⟩
    cases c with
    | true =>
      obtain ⟨b, S', h, q⟩ := q
      exact ⟨b, S', by unfold eAn; rw [h1]; exact h, q⟩
    | false => exact ⟨_, S1, by unfold eAn; rw [h1]; rfl, q⟩
theorem w_Or {m n : EM RV} : W (eOr m n) r S Q ↔ W (tB m) r S fun b S1 => if b = true then Q (.v (.bl true)) S1 else W n r S1 Q := by
  constructor
  · rintro ⟨b, S', h, q⟩
    obtain ⟨⟨c, S1⟩, h1, h⟩ := Option.bind_eq_some_iff.mp h
    refine ⟨c, S1, h1, ?_⟩
    cases c with
    | false => exact ⟨b, S', h, q⟩
    | true =>
      cases h
      exact q
  · rintro ⟨c, S1, h1, q⟩
    cases c with
    | false =>
      obtain ⟨b, S', h, q⟩ := q
      exact ⟨b, S', by unfold eOr; rw [h1]; exact h, q⟩
    | true => exact ⟨_, S1, by unfold eOr; rw [h1]; rfl, q⟩
/-- a branch, whatever its kind -/
theorem w_br {α : Type} {t : EM Bool} {m n : EM α} {Q : α → Sto → Prop} {f : EM α} (hf : f = fun r S => (t r S).bind fun p => if p.1 = true then m r p.2 else n r p.2) : W f r S Q ↔ W t r S fun b S1 => if b = true then W m r S1 Q else W n r S1 Q := by
  subst hf
  constructor
  · rintro ⟨b, S', h, q⟩
    obtain ⟨⟨c, S1⟩, h1, h⟩ := Option.bind_eq_some_iff.mp h
    refine ⟨c, S1, h1, ?_⟩
    cases c with
    | true => exact ⟨b, S', h, q⟩
    | false => exact ⟨b, S', h, q⟩
  · rintro ⟨c, S1, h1, q⟩
    cases c with
    | true =>
      obtain ⟨b, S', h, q⟩ := q
      exact ⟨b, S', by dsimp only; rw [h1]; exact h, q⟩
    | false =>
      obtain ⟨b, S', h, q⟩ := q
      exact ⟨b, S', by dsimp only; rw [h1]; exact h, q⟩
theorem w_If {t : EM Bool} {ma mb : EM RV} : W (eIf t ma mb) r S Q ↔ W t r S fun b S1 => if b = true then W ma r S1 Q else W mb r S1 Q := w_br rfl
theorem ws_If {t : EM Bool} {m n : SM} : W (sIf t m n) r S QS ↔ W t r S fun b S1 => if b = true then W m r S1 QS else W n r S1 QS := w_br rfl
theorem wa_Nil : W aNil r S QA ↔ QA [] S := ⟨fun ⟨_, _, h, q⟩ => by cases h; exact q, fun q => ⟨_, _, rfl, q⟩⟩
theorem wa_Cons {m : EM RV} {ms : EM (List RV)} : W (aCons m ms) r S QA ↔ W m r S fun x S1 => W ms r S1 fun xs S2 => QA (x :: xs) S2 := by
  constructor
  · rintro ⟨xs, S', h, q⟩
    obtain ⟨⟨x, S1⟩, h1, h⟩ := Option.bind_eq_some_iff.mp h
    obtain ⟨⟨ys, S2⟩, h2, h⟩ := Option.map_eq_some_iff.mp h
    cases h
    exact ⟨x, S1, h1, ys, _, h2, q⟩
  · rintro ⟨x, S1, h1, ys, S2, h2, q⟩
    refine ⟨_, S2, ?_, q⟩
    unfold aCons
    rw [h1]
    show ((ms r S1).map _) = _
    rw [h2]
    rfl
theorem w_Tup {ms : EM (List RV)} : W (eTup ms) r S Q ↔ W ms r S fun xs S1 => ∃ ys, allV xs = some ys ∧ smallL ys.length = true ∧ Q (.v (.tup ys)) S1 := by
  constructor
  · rintro ⟨x, S', h, q⟩
    obtain ⟨⟨xs, S1⟩, h1, h⟩ := Option.bind_eq_some_iff.mp h
    obtain ⟨ys, h2, h⟩ := Option.bind_eq_some_iff.mp h
    split at h
    · rename_i hz
      cases h
      exact ⟨xs, _, h1, ys, h2, hz, q⟩
    · cases h
  · rintro ⟨xs, S1, h1, ys, h2, hz, q⟩
    refine ⟨_, S1, ?_, q⟩
    unfold eTup
    rw [h1]
    show ((allV xs).bind _) = _
    rw [h2]
    exact if_pos hz
theorem w_Lst {ms : EM (List RV)} : W (eLst ms) r S Q ↔ W ms r S fun xs S1 => ∃ ys, allV xs = some ys ∧ smallL ys.length = true ∧ Q (.v (.lst ys)) S1 := by
  constructor
  · rintro ⟨x, S', h, q⟩
    obtain ⟨⟨xs, S1⟩, h1, h⟩ := Option.bind_eq_some_iff.mp h
    obtain ⟨ys, h2, h⟩ := Option.bind_eq_some_iff.mp h
    split at h
    · rename_i hz
      cases h
      exact ⟨xs, _, h1, ys, h2, hz, q⟩
    · cases h
  · rintro ⟨xs, S1, h1, ys, h2, hz, q⟩
    refine ⟨_, S1, ?_, q⟩
    unfold eLst
    rw [h1]
    show ((allV xs).bind _) = _
    rw [h2]
    exact if_pos hz
theorem w_LstM {ms : EM (List RV)} : W (eLstM ms) r S Q ↔ W ms r S fun xs S1 => ∃ ys, allV xs = some ys ∧ smallL ys.length = true ∧ Q (.ref S1.length) (S1 ++ [.lst ys]) := by
  constructor
  · rintro ⟨x, S', h, q⟩
    obtain ⟨⟨xs, S1⟩, h1, h⟩ := Option.bind_eq_some_iff.mp h
    obtain ⟨ys, h2, h⟩ := Option.bind_eq_some_iff.mp h
    split at h
    · rename_i hz
      cases h
      exact ⟨xs, _, h1, ys, h2, hz, q⟩
    · cases h
  · rintro ⟨xs, S1, h1, ys, h2, hz, q⟩
    refine ⟨_, _, ?_, q⟩
    unfold eLstM
    rw [h1]
    show ((allV xs).bind _) = _
    rw [h2]
    exact if_pos hz
theorem w_Dct {t : Bool} : W (eDct t) r S Q ↔ Q (.v (.dct t [] [])) S := ⟨fun ⟨_, _, h, q⟩ => by cases h; exact q, fun q => ⟨_, _, rfl, q⟩⟩
theorem w_DctM {t : Bool} : W (eDctM t) r S Q ↔ Q (.ref S.length) (S ++ [.dct t [] []]) := ⟨fun ⟨_, _, h, q⟩ => by cases h; exact q, fun q => ⟨_, _, rfl, q⟩⟩
theorem w_B {c : CM} {ms : EM (List RV)} : W (eB c ms) r S Q ↔ W ms r S fun xs S1 => WC c xs S1 Q := by
  constructor
  · rintro ⟨x, S', h, q⟩
    obtain ⟨⟨xs, S1⟩, h1, h⟩ := Option.bind_eq_some_iff.mp h
    exact ⟨xs, S1, h1, x, S', h, q⟩
  · rintro ⟨xs, S1, h1, x, S', h, q⟩
    exact ⟨x, S', by unfold eB; rw [h1]; exact h, q⟩
theorem w_Call {n : Nat} {c : CM} {ms : EM (List RV)} : W (eCall n c ms) r S Q ↔ W ms r S fun xs S1 => xs.length = n ∧ WC c xs S1 Q := by
  constructor
  · rintro ⟨x, S', h, q⟩
    obtain ⟨⟨xs, S1⟩, h1, h⟩ := Option.bind_eq_some_iff.mp h
    split at h
    · rename_i hl
      exact ⟨xs, S1, h1, hl, x, S', h, q⟩
    · cases h
  · rintro ⟨xs, S1, h1, hl, x, S', h, q⟩
    exact ⟨x, S', by unfold eCall; rw [h1]; exact (if_pos hl).trans h, q⟩
theorem w_Mt {c : MM} {mo : EM RV} {ms : EM (List RV)} : W (eMt c mo ms) r S Q ↔ W mo r S fun o S1 => isL S1 o = true ∧ W ms r S1 fun xs S2 => ∃ y S', c o xs S2 = some (y, S') ∧ Q y S' := by
  constructor
  · rintro ⟨x, S', h, q⟩
    obtain ⟨⟨xo, S1⟩, h1, h⟩ := Option.bind_eq_some_iff.mp h
    split at h
    · rename_i hl
      obtain ⟨⟨xs, S2⟩, h2, h⟩ := Option.bind_eq_some_iff.mp h
      exact ⟨xo, S1, h1, hl, xs, S2, h2, x, S', h, q⟩
    · cases h
  · rintro ⟨xo, S1, h1, hl, xs, S2, h2, x, S', h, q⟩
    refine ⟨x, S', ?_, q⟩
    unfold eMt
    rw [h1]
    refine (if_pos hl).trans ?_
    show ((ms r S1).bind _) = _
    rw [h2]
    exact h
/-- the arguments as they are read -/
def PL (S : Sto) (xs : List RV) (Q : List PV → Prop) : Prop := ∃ ys, peekL S xs = some ys ∧ Q ys
theorem pl_nil {QX : List PV → Prop} : PL S [] QX ↔ QX [] := ⟨fun ⟨_, h, q⟩ => by cases h; exact q, fun q => ⟨_, rfl, q⟩⟩
theorem pl_cons {x : RV} {xs : List RV} {QX : List PV → Prop} : PL S (x :: xs) QX ↔ P S x fun y => PL S xs fun ys => QX (y :: ys) := by
  constructor
  · rintro ⟨ys, h, q⟩
    obtain ⟨y, h1, h⟩ := Option.bind_eq_some_iff.mp h
    obtain ⟨zs, h2, rfl⟩ := Option.map_eq_some_iff.mp h
    exact ⟨y, h1, zs, h2, q⟩
  · rintro ⟨y, h1, zs, h2, q⟩
    refine ⟨_, ?_, q⟩
    show ((peek S x).bind _) = _
    rw [h1]
    show ((peekL S xs).map _) = _
    rw [h2]
    rfl
theorem wc_P {g : List PV → Option PV} {xs : List RV} : WC (bP g) xs S Q ↔ PL S xs fun ys => GL g ys fun z => Q (.v z) S := by
  constructor
  · rintro ⟨x, S', h, q⟩
    obtain ⟨ys, h1, h⟩ := Option.bind_eq_some_iff.mp h
    obtain ⟨z, h2, h⟩ := Option.map_eq_some_iff.mp h
    cases h
    exact ⟨ys, h1, z, h2, q⟩
  · rintro ⟨ys, h1, z, h2, q⟩
    refine ⟨_, S, ?_, q⟩
    unfold bP
    rw [h1]
    show ((g ys).map _) = _
    rw [h2]
    rfl
theorem wc_M {g : List PV → Option PV} {xs : List RV} : WC (bM g) xs S Q ↔ PL S xs fun ys => GL g ys fun z => ∃ zs, z = .lst zs ∧ Q (.ref S.length) (S ++ [.lst zs]) := by
  constructor
  · rintro ⟨x, S', h, q⟩
    obtain ⟨ys, h1, h⟩ := Option.bind_eq_some_iff.mp h
    obtain ⟨z, h2, h⟩ := Option.bind_eq_some_iff.mp h
    split at h
    · cases h
      exact ⟨ys, h1, _, h2, _, rfl, q⟩
    · cases h
  · rintro ⟨ys, h1, z, h2, zs, rfl, q⟩
    refine ⟨_, _, ?_, q⟩
    unfold bM
    rw [h1]
    show ((g ys).bind _) = _
    rw [h2]
    rfl
theorem w_Sl {ma : EM RV} {ml mh : OM} : W (eSl ma ml mh) r S Q ↔ W ma r S fun x S1 => W ml r S1 fun l S2 => W mh r S2 fun h S3 => P S3 x fun px => ∃ z, slP px l h = some z ∧ Q (.v z) S3 := by
  constructor
  · rintro ⟨x, S', h, q⟩
    obtain ⟨⟨xa, S1⟩, g1, h⟩ := Option.bind_eq_some_iff.mp h
    obtain ⟨⟨lo, S2⟩, g2, h⟩ := Option.bind_eq_some_iff.mp h
    obtain ⟨⟨hi, S3⟩, g3, h⟩ := Option.bind_eq_some_iff.mp h
    obtain ⟨px, g4, h⟩ := Option.bind_eq_some_iff.mp h
    obtain ⟨z, g5, h⟩ := Option.map_eq_some_iff.mp h
    cases h
    exact ⟨xa, S1, g1, lo, S2, g2, hi, _, g3, px, g4, z, g5, q⟩
  · rintro ⟨xa, S1, g1, lo, S2, g2, hi, S3, g3, px, g4, z, g5, q⟩
    refine ⟨_, S3, ?_, q⟩
    unfold eSl
    rw [g1]
    show ((ml r S1).bind _) = _
    rw [g2]
    show ((mh r S2).bind _) = _
    rw [g3]
    show ((peek S3 xa).bind _) = _
    rw [g4]
    show ((slP px lo hi).map _) = _
    rw [g5]
    rfl
theorem wo_No {QO : Option Int → Sto → Prop} : W oNo r S QO ↔ QO none S := ⟨fun ⟨_, _, h, q⟩ => by cases h; exact q, fun q => ⟨_, _, rfl, q⟩⟩
theorem wo_Some {m : EM RV} {QO : Option Int → Sto → Prop} : W (oSome m) r S QO ↔ W m r S fun x S1 => ∃ i, x = .v (.int i) ∧ QO (some i) S1 := by
  constructor
  · rintro ⟨o, S', h, q⟩
    obtain ⟨⟨x, S1⟩, g1, h⟩ := Option.bind_eq_some_iff.mp h
    cases x with
    | ref n => cases h
    | v x => cases x with
      | int i =>
        cases h
        exact ⟨_, _, g1, i, rfl, q⟩
      | _ => cases h
  · rintro ⟨_, S1, g1, i, rfl, q⟩
    exact ⟨_, S1, by unfold oSome; rw [g1]; rfl, q⟩
theorem w_Rl {mu : Bool} {f : List RV → Option (List PV)} {ms : EM (List RV)} : W (eRl mu f ms) r S Q ↔ W ms r S fun xs S1 => ∃ ys, f xs = some ys ∧ if mu then Q (.ref S1.length) (S1 ++ [.lst ys]) else Q (.v (.lst ys)) S1 := by
  constructor
  · rintro ⟨x, S', h, q⟩
    obtain ⟨⟨xs, S1⟩, h1, h⟩ := Option.bind_eq_some_iff.mp h
    obtain ⟨ys, h2, h⟩ := Option.map_eq_some_iff.mp h
    refine ⟨xs, S1, h1, ys, h2, ?_⟩
    cases mu with
    | true =>
      cases h
      exact q
    | false =>
      cases h
      exact q
  · rintro ⟨xs, S1, h1, ys, h2, q⟩
    cases mu with
    | true =>
      refine ⟨_, _, ?_, q⟩
      unfold eRl
      rw [h1]
      show ((f xs).map _) = _
      rw [h2]
      rfl
    | false =>
      refine ⟨_, _, ?_, q⟩
      unfold eRl
      rw [h1]
      show ((f xs).map _) = _
      rw [h2]
      rfl

/-! ### statements -/
theorem ws_Nil : W sNil r S QS ↔ QS (.nx r) S := ⟨fun ⟨_, _, h, q⟩ => by cases h; exact q, fun q => ⟨_, _, rfl, q⟩⟩
/-- what follows a statement -/
def thenQ (n : SM) (QS : Out → Sto → Prop) (o : Out) (S1 : Sto) : Prop := match o with
  | .nx r' => W n r' S1 QS
  | o => QS o S1
theorem ws_Cons {m n : SM} : W (sCons m n) r S QS ↔ W m r S (thenQ n QS) := by
  constructor
  · rintro ⟨o, S', h, q⟩
    obtain ⟨⟨o1, S1⟩, h1, h⟩ := Option.bind_eq_some_iff.mp h
    refine ⟨o1, S1, h1, ?_⟩
    cases o1 with
    | nx r' => exact ⟨o, S', h, q⟩
    | rt x =>
      cases h
      exact q
    | bk r' =>
      cases h
      exact q
    | ct r' =>
      cases h
      exact q
  · rintro ⟨o1, S1, h1, q⟩
    cases o1 with
    | nx r' =>
      obtain ⟨o, S', h, q⟩ := q
      exact ⟨o, S', by unfold sCons; rw [h1]; exact h, q⟩
    | rt x => exact ⟨_, S1, by unfold sCons; rw [h1]; rfl, q⟩
    | bk r' => exact ⟨_, S1, by unfold sCons; rw [h1]; rfl, q⟩
    | ct r' => exact ⟨_, S1, by unfold sCons; rw [h1]; rfl, q⟩
theorem then_nx {n : SM} {r' : Lo} {S1 : Sto} : thenQ n QS (.nx r') S1 ↔ W n r' S1 QS := Iff.rfl
theorem then_rt {n : SM} {x : Ret} {S1 : Sto} : thenQ n QS (.rt x) S1 ↔ QS (.rt x) S1 := Iff.rfl
theorem ws_Asg {m : EM RV} {g : GM} : W (sAsg m g) r S QS ↔ W m r S fun x S1 => WG g x r S1 fun r' S2 => QS (.nx r') S2 := by
  constructor
  · rintro ⟨o, S', h, q⟩
    obtain ⟨⟨x, S1⟩, h1, h⟩ := Option.bind_eq_some_iff.mp h
    obtain ⟨⟨r2, S2⟩, h2, h⟩ := Option.map_eq_some_iff.mp h
    cases h
    exact ⟨x, S1, h1, r2, _, h2, q⟩
  · rintro ⟨x, S1, h1, r2, S2, h2, q⟩
    refine ⟨_, S2, ?_, q⟩
    unfold sAsg
    rw [h1]
    show ((g x r S1).map _) = _
    rw [h2]
    rfl
theorem wg_Nm {i : Nat} {x : RV} : WG (gNm i) x r S QL ↔ QL (r.set i (some x)) S := ⟨fun ⟨_, _, h, q⟩ => by cases h; exact q, fun q => ⟨_, _, rfl, q⟩⟩
theorem wg_Tp {n : Nat} {gs : GsM} {xs : List PV} : WG (gTp n gs) (.v (.tup xs)) r S QL ↔ xs.length = n ∧ WGs gs xs r S QL := by
  constructor
  · rintro ⟨r', S', h, q⟩
    unfold gTp at h
    dsimp only at h
    split at h
    · rename_i hl
      exact ⟨hl, r', S', h, q⟩
    · cases h
  · rintro ⟨hl, r', S', h, q⟩
    refine ⟨r', S', ?_, q⟩
    unfold gTp
    exact (if_pos hl).trans h
theorem wgs_Nil : WGs gsNil [] r S QL ↔ QL r S := ⟨fun ⟨_, _, h, q⟩ => by cases h; exact q, fun q => ⟨_, _, rfl, q⟩⟩
theorem wgs_Cons {g : GM} {gs : GsM} {x : PV} {xs : List PV} : WGs (gsCons g gs) (x :: xs) r S QL ↔ WG g (.v x) r S fun r' S1 => WGs gs xs r' S1 QL := by
  constructor
  · rintro ⟨r', S', h, q⟩
    obtain ⟨⟨r1, S1⟩, h1, h⟩ := Option.bind_eq_some_iff.mp h
    exact ⟨r1, S1, h1, r', S', h, q⟩
  · rintro ⟨r1, S1, h1, r', S', h, q⟩
    refine ⟨r', S', ?_, q⟩
    show ((g (.v x) r S).bind _) = _
    rw [h1]
    exact h
theorem wg_Sb {mo mi : EM RV} {f : WM} {x : RV} : WG (gSb mo mi f) x r S QL ↔ W mo r S fun o S1 => W mi r S1 fun i S2 => ∃ S', f o i x S2 = some S' ∧ QL r S' := by
  constructor
  · rintro ⟨r', S', h, q⟩
    obtain ⟨⟨xo, S1⟩, g1, h⟩ := Option.bind_eq_some_iff.mp h
    obtain ⟨⟨xi, S2⟩, g2, h⟩ := Option.bind_eq_some_iff.mp h
    obtain ⟨S3, g3, h⟩ := Option.map_eq_some_iff.mp h
    cases h
    exact ⟨xo, S1, g1, xi, S2, g2, _, g3, q⟩
  · rintro ⟨xo, S1, g1, xi, S2, g2, S3, g3, q⟩
    refine ⟨r, S3, ?_, q⟩
    unfold gSb
    rw [g1]
    show ((mi r S1).bind _) = _
    rw [g2]
    show ((f xo xi x S2).map _) = _
    rw [g3]
    rfl
theorem ws_Par {is : List Nat} {ms : EM (List RV)} : W (sPar is ms) r S QS ↔ W ms r S fun xs S1 => (xs.length = is.length ∧ smallL is.length = true) ∧ QS (.nx (setAll r is xs)) S1 := by
  constructor
  · rintro ⟨o, S', h, q⟩
    obtain ⟨⟨xs, S1⟩, h1, h⟩ := Option.bind_eq_some_iff.mp h
    split at h
    · rename_i hl
      cases h
      exact ⟨xs, _, h1, hl, q⟩
    · cases h
  · rintro ⟨xs, S1, h1, hl, q⟩
    refine ⟨_, S1, ?_, q⟩
    unfold sPar
    rw [h1]
    exact if_pos hl
theorem ws_Aug {i : Nat} {m : EM RV} {g : PV → PV → Option PV} : W (sAug i m g) r S QS ↔ ∃ x, r[i]? = some (some (.v x)) ∧ W m r S fun y S1 => P S1 y fun py => G g x py fun z => QS (.nx (r.set i (some (.v z)))) S1 := by
  constructor
  · rintro ⟨o, S', h, q⟩
    unfold sAug at h
    split at h
    · rename_i x hx
      obtain ⟨⟨y, S1⟩, g1, h⟩ := Option.bind_eq_some_iff.mp h
      obtain ⟨py, g2, h⟩ := Option.bind_eq_some_iff.mp h
      obtain ⟨z, g3, h⟩ := Option.map_eq_some_iff.mp h
      cases h
      exact ⟨x, hx, y, _, g1, py, g2, z, g3, q⟩
    · cases h
  · rintro ⟨x, hx, y, S1, g1, py, g2, z, g3, q⟩
    refine ⟨_, S1, ?_, q⟩
    unfold sAug
    rw [hx]
    show ((m r S).bind _) = _
    rw [g1]
    show ((peek S1 y).bind _) = _
    rw [g2]
    show ((g x py).map _) = _
    rw [g3]
    rfl
theorem ws_AugS {mo mi m : EM RV} {gi : IM} {g : PV → PV → Option PV} {f : WM} : W (sAugS mo mi m gi g f) r S QS ↔ W mo r S fun o S1 => W mi r S1 fun i S2 => ∃ x, gi o i S2 = some x ∧ W m r S2 fun y S3 => P S3 x fun px => P S3 y fun py => G g px py fun z => ∃ S', f o i (.v z) S3 = some S' ∧ QS (.nx r) S' := by
  constructor
  · rintro ⟨out, S', h, q⟩
    obtain ⟨⟨xo, S1⟩, g1, h⟩ := Option.bind_eq_some_iff.mp h
    obtain ⟨⟨xi, S2⟩, g2, h⟩ := Option.bind_eq_some_iff.mp h
    obtain ⟨x, g3, h⟩ := Option.bind_eq_some_iff.mp h
    obtain ⟨⟨xv, S4⟩, g4, h⟩ := Option.bind_eq_some_iff.mp h
    obtain ⟨px, g5, h⟩ := Option.bind_eq_some_iff.mp h
    obtain ⟨py, g6, h⟩ := Option.bind_eq_some_iff.mp h
    obtain ⟨z, g7, h⟩ := Option.bind_eq_some_iff.mp h
    obtain ⟨S5, g8, h⟩ := Option.map_eq_some_iff.mp h
    cases h
    exact ⟨xo, S1, g1, xi, S2, g2, x, g3, xv, S4, g4, px, g5, py, g6, z, g7, _, g8, q⟩
  · rintro ⟨xo, S1, g1, xi, S2, g2, x, g3, xv, S4, g4, px, g5, py, g6, z, g7, S5, g8, q⟩
    refine ⟨_, S5, ?_, q⟩
    unfold sAugS
    rw [g1]
    show ((mi r S1).bind _) = _
    rw [g2]
    show ((gi xo xi S2).bind _) = _
    rw [g3]
    show ((m r S2).bind _) = _
    rw [g4]
    show ((peek S4 x).bind _) = _
    rw [g5]
    show ((peek S4 xv).bind _) = _
    rw [g6]
    show ((g px py).bind _) = _
    rw [g7]
    show ((f xo xi (.v z) S4).map _) = _
    rw [g8]
    rfl
theorem ws_Ret {m : EM RV} : W (sRet m) r S QS ↔ W m r S fun x S1 => QS (.rt (.one x)) S1 := by
  constructor
  · rintro ⟨o, S', h, q⟩
    obtain ⟨⟨x, S1⟩, h1, h⟩ := Option.map_eq_some_iff.mp h
    cases h
    exact ⟨x, _, h1, q⟩
  · rintro ⟨x, S1, h1, q⟩
    exact ⟨_, S1, by unfold sRet; rw [h1]; rfl, q⟩
theorem ws_RetT {ms : EM (List RV)} : W (sRetT ms) r S QS ↔ W ms r S fun xs S1 => smallL xs.length = true ∧ QS (.rt (.many xs)) S1 := by
  constructor
  · rintro ⟨o, S', h, q⟩
    obtain ⟨⟨xs, S1⟩, h1, h⟩ := Option.bind_eq_some_iff.mp h
    split at h
    · rename_i hz
      cases h
      exact ⟨xs, _, h1, hz, q⟩
    · cases h
  · rintro ⟨xs, S1, h1, hz, q⟩
    exact ⟨_, S1, by unfold sRetT; rw [h1]; exact if_pos hz, q⟩
theorem ws_Drop {m : EM RV} : W (sDrop m) r S QS ↔ W m r S fun _ S1 => QS (.nx r) S1 := by
  constructor
  · rintro ⟨o, S', h, q⟩
    obtain ⟨⟨x, S1⟩, h1, h⟩ := Option.map_eq_some_iff.mp h
    cases h
    exact ⟨x, _, h1, q⟩
  · rintro ⟨x, S1, h1, q⟩
    exact ⟨_, S1, by unfold sDrop; rw [h1]; rfl, q⟩
theorem ws_For {mi : EM Itm} {g : GM} {body : SM} : W (sFor mi g body) r S QS ↔ W mi r S fun it S1 => WF it.src g body it.xs r S1 QS := by
  constructor
  · rintro ⟨o, S', h, q⟩
    obtain ⟨⟨it, S1⟩, h1, h⟩ := Option.bind_eq_some_iff.mp h
    exact ⟨it, S1, h1, o, S', h, q⟩
  · rintro ⟨it, S1, h1, o, S', h, q⟩
    exact ⟨o, S', by unfold sFor; rw [h1]; exact h, q⟩
theorem wi_Sq {m : EM RV} : W (iSq m) r S QI ↔ W m r S fun x S1 => ∃ it, itOf S1 x = some it ∧ QI it S1 := by
  constructor
  · rintro ⟨o, S', h, q⟩
    obtain ⟨⟨x, S1⟩, h1, h⟩ := Option.bind_eq_some_iff.mp h
    obtain ⟨it, h2, h⟩ := Option.map_eq_some_iff.mp h
    cases h
    exact ⟨x, _, h1, _, h2, q⟩
  · rintro ⟨x, S1, h1, it, h2, q⟩
    refine ⟨_, S1, ?_, q⟩
    unfold iSq
    rw [h1]
    show ((itOf S1 x).map _) = _
    rw [h2]
    rfl
theorem wi_Rg {f : List RV → Option Itm} {ms : EM (List RV)} : W (iRg f ms) r S QI ↔ W ms r S fun xs S1 => ∃ it, f xs = some it ∧ QI it S1 := by
  constructor
  · rintro ⟨o, S', h, q⟩
    obtain ⟨⟨x, S1⟩, h1, h⟩ := Option.bind_eq_some_iff.mp h
    obtain ⟨it, h2, h⟩ := Option.map_eq_some_iff.mp h
    cases h
    exact ⟨x, _, h1, _, h2, q⟩
  · rintro ⟨x, S1, h1, it, h2, q⟩
    refine ⟨_, S1, ?_, q⟩
    unfold iRg
    rw [h1]
    show ((f x).map _) = _
    rw [h2]
    rfl
theorem wi_En {ms : EM (List RV)} : W (iEn ms) r S QI ↔ W ms r S fun xs S1 => ∃ x, xs = [x] ∧ isLst S1 x = true ∧ ∃ it, itOf S1 x = some it ∧ QI ⟨enumL 0 it.xs, it.src⟩ S1 := by
  constructor
  · rintro ⟨o, S', h, q⟩
    obtain ⟨⟨xs, S1⟩, h1, h⟩ := Option.bind_eq_some_iff.mp h
    dsimp only at h
    split at h
    · split at h
      · rename_i x hl
        obtain ⟨it, h2, h⟩ := Option.map_eq_some_iff.mp h
        cases h
        exact ⟨_, _, h1, x, rfl, hl, it, h2, q⟩
      · cases h
    · cases h
  · rintro ⟨xs, S1, h1, x, rfl, hl, it, h2, q⟩
    refine ⟨_, S1, ?_, q⟩
    unfold iEn
    rw [h1]
    refine (if_pos hl).trans ?_
    rw [h2]
    rfl
theorem wi_Zp {ms : EM (List RV)} : W (iZp ms) r S QI ↔ W ms r S fun xs S1 => ∃ x y, xs = [x, y] ∧ ((isLst S1 x && isLst S1 y) || (isTup x && isTup y)) = true ∧ ∃ it, itOf S1 x = some it ∧ ∃ jt, itOf S1 y = some jt ∧ QI ⟨zipL it.xs jt.xs, it.src ++ jt.src⟩ S1 := by
  constructor
  · rintro ⟨o, S', h, q⟩
    obtain ⟨⟨xs, S1⟩, h1, h⟩ := Option.bind_eq_some_iff.mp h
    dsimp only at h
    split at h
    · split at h
      · rename_i x y hl
        obtain ⟨it, h2, h⟩ := Option.bind_eq_some_iff.mp h
        obtain ⟨jt, h3, h⟩ := Option.map_eq_some_iff.mp h
        cases h
        exact ⟨_, _, h1, x, y, rfl, hl, it, h2, jt, h3, q⟩
      · cases h
    · cases h
  · rintro ⟨xs, S1, h1, x, y, rfl, hl, it, h2, jt, h3, q⟩
    refine ⟨_, S1, ?_, q⟩
    unfold iZp
    rw [h1]
    refine (if_pos hl).trans ?_
    rw [h2]
    show ((itOf S1 y).map _) = _
    rw [h3]
    rfl
/-- a def's meaning -/
def endR (keep : Bool) (n : Nat) (o : Out) (S1 : Sto) : Option (RV × Sto) := match o with
  | .nx _ => fin keep n S1 (.one (.v .non))
  | .rt x => fin keep n S1 x
  | _ => none
theorem fnSem_eq {nN np : Nat} {keep : Bool} {mb : SM} {xs : List RV} : fnSem nN np keep mb xs S = if xs.length = np then (mb (startL nN xs) S).bind fun p => endR keep S.length p.1 p.2 else none := rfl
theorem wc_fn {nN np : Nat} {keep : Bool} {mb : SM} {xs : List RV} : WC (fnSem nN np keep mb) xs S Q ↔ xs.length = np ∧ W mb (startL nN xs) S fun o S1 => ∃ y S', endR keep S.length o S1 = some (y, S') ∧ Q y S' := by
  constructor
  · rintro ⟨y, S', h, q⟩
    rw [fnSem_eq] at h
    split at h
    · rename_i hl
      obtain ⟨⟨o, S1⟩, h1, h⟩ := Option.bind_eq_some_iff.mp h
      exact ⟨hl, o, S1, h1, y, S', h, q⟩
    · cases h
  · rintro ⟨hl, o, S1, h1, y, S', h, q⟩
    refine ⟨y, S', ?_, q⟩
    rw [fnSem_eq, if_pos hl, h1]
    exact h
/-- a def's return: values, where the store is no shorter -/
theorem fin_v {n : Nat} {x : PV} (h : n ≤ S.length) : fin false n S (.one (.v x)) = some (.v x, S.take n) := by
  unfold fin
  dsimp only
  rw [if_neg Bool.false_ne_true, if_pos h]
  rfl
theorem wc_def {nN np : Nat} {mb : SM} {xs : List RV} {Q : RV → Sto → Prop} (hl : xs.length = np) (h : W mb (startL nN xs) S fun o S1 => ∃ x y, o = .rt (.one x) ∧ S.length ≤ S1.length ∧ frz1 S.length S1 x = some y ∧ Q y (S1.take S.length)) : WC (fnSem nN np false mb) xs S Q := by
  rw [wc_fn]
  refine ⟨hl, h.mono ?_⟩
  rintro o S1 ⟨x, y, rfl, h1, h2, q⟩
  refine ⟨y, _, ?_, q⟩
  unfold endR fin
  dsimp only
  rw [if_neg Bool.false_ne_true, if_pos h1, h2]
  rfl
/-- .. where it ends behind its last statement or returns a tuple of things -/
theorem wc_many {nN np : Nat} {mb : SM} {xs : List RV} {Q : RV → Sto → Prop} (hl : xs.length = np) (h : W mb (startL nN xs) S fun o S1 => ∃ ys zs, o = .rt (.many ys) ∧ S.length ≤ S1.length ∧ frzL S.length S1 ys = some zs ∧ Q (.v (.tup zs)) (S1.take S.length)) : WC (fnSem nN np false mb) xs S Q := by
  rw [wc_fn]
  refine ⟨hl, h.mono ?_⟩
  rintro o S1 ⟨ys, zs, rfl, h1, h2, q⟩
  refine ⟨_, _, ?_, q⟩
  unfold endR fin
  dsimp only
  rw [if_pos h1, h2]
  rfl

/-! ### .. where slots and stores are written out -/
/-- a bool; a list of values; a walk -/
def BO (x : RV) (Q : Bool → Prop) : Prop := ∃ b, x = .v (.bl b) ∧ Q b
def IO' (x : RV) (Q : Int → Prop) : Prop := ∃ i, x = .v (.int i) ∧ Q i
def AV (xs : List RV) (Q : List PV → Prop) : Prop := ∃ ys, allV xs = some ys ∧ Q ys
def IT (S : Sto) (x : RV) (Q : Itm → Prop) : Prop := ∃ it, itOf S x = some it ∧ Q it
def AT (xs : List PV) (i : Int) (Q : PV → Prop) : Prop := ∃ z, atI xs i = some z ∧ Q z
def PO' (o : SO) (Q : PV → Prop) : Prop := ∃ y, o.pv = some y ∧ Q y
theorem bo {b : Bool} {Q : Bool → Prop} : BO (.v (.bl b)) Q ↔ Q b := ⟨fun ⟨_, h, q⟩ => by cases h; exact q, fun q => ⟨b, rfl, q⟩⟩
theorem io {b : Int} {Q : Int → Prop} : IO' (.v (.int b)) Q ↔ Q b := ⟨fun ⟨_, h, q⟩ => by cases h; exact q, fun q => ⟨b, rfl, q⟩⟩
theorem av0 {Q : List PV → Prop} : AV [] Q ↔ Q [] := ⟨fun ⟨_, h, q⟩ => by cases h; exact q, fun q => ⟨_, rfl, q⟩⟩
theorem av1 {x : PV} {xs : List RV} {Q : List PV → Prop} : AV (.v x :: xs) Q ↔ AV xs fun ys => Q (x :: ys) := by
  constructor
  · rintro ⟨ys, h, q⟩
    obtain ⟨zs, h1, rfl⟩ := Option.map_eq_some_iff.mp (show (allV xs).map (x :: ·) = some ys from h)
    exact ⟨zs, h1, q⟩
  · rintro ⟨ys, h, q⟩
    exact ⟨_, by show (allV xs).map (x :: ·) = _; rw [h]; rfl, q⟩
theorem itL {xs : List PV} {Q : Itm → Prop} : IT S (.v (.lst xs)) Q ↔ Q ⟨xs, []⟩ := ⟨fun ⟨_, h, q⟩ => by cases h; exact q, fun q => ⟨_, rfl, q⟩⟩
theorem itT {xs : List PV} {Q : Itm → Prop} : IT S (.v (.tup xs)) Q ↔ Q ⟨xs, []⟩ := ⟨fun ⟨_, h, q⟩ => by cases h; exact q, fun q => ⟨_, rfl, q⟩⟩
theorem itR {n : Nat} {xs : List PV} {Q : Itm → Prop} (h : S[n]? = some (.lst xs)) : IT S (.ref n) Q ↔ Q ⟨xs, [(n, .lst xs)]⟩ := by
  have e : itOf S (.ref n) = some ⟨xs, [(n, .lst xs)]⟩ := by
    unfold itOf
    dsimp only
    rw [h]
  constructor
  · rintro ⟨it, h1, q⟩
    rw [e] at h1
    cases h1
    exact q
  · exact fun q => ⟨_, e, q⟩
theorem poL {xs : List PV} {Q : PV → Prop} : PO' (.lst xs) Q ↔ Q (.lst xs) := ⟨fun ⟨_, h, q⟩ => by cases h; exact q, fun q => ⟨_, rfl, q⟩⟩
theorem poD {t : Bool} {ks vs : List PV} {Q : PV → Prop} : PO' (.dct t ks vs) Q ↔ Q (.dct t ks vs) := ⟨fun ⟨_, h, q⟩ => by cases h; exact q, fun q => ⟨_, rfl, q⟩⟩
theorem pr_at {n : Nat} {o : SO} {Q : PV → Prop} (h : S[n]? = some o) : P S (.ref n) Q ↔ PO' o Q := by
  rw [p_ref]
  constructor
  · rintro ⟨o', h1, y, h2, q⟩
    rw [h] at h1
    cases h1
    exact ⟨y, h2, q⟩
  · rintro ⟨y, h2, q⟩
    exact ⟨o, h, y, h2, q⟩
section
variable {o o1 o2 o3 : SO} {Q : PV → Prop} {QI : Itm → Prop}
theorem pr0 : P (o :: S) (.ref 0) Q ↔ PO' o Q := pr_at rfl
theorem pr1 : P (o :: o1 :: S) (.ref 1) Q ↔ PO' o1 Q := pr_at rfl
theorem pr2 : P (o :: o1 :: o2 :: S) (.ref 2) Q ↔ PO' o2 Q := pr_at rfl
theorem pr3 : P (o :: o1 :: o2 :: o3 :: S) (.ref 3) Q ↔ PO' o3 Q := pr_at rfl
theorem prA : P (o :: (S ++ [o1])) (.ref (S.length + 1)) Q ↔ PO' o1 Q := pr_at (by simp)
theorem prB : P (S ++ [o1]) (.ref S.length) Q ↔ PO' o1 Q := pr_at (by simp)
theorem it0 {xs : List PV} : IT (.lst xs :: S) (.ref 0) QI ↔ QI ⟨xs, [(0, .lst xs)]⟩ := itR rfl
theorem it1 {xs : List PV} : IT (o :: .lst xs :: S) (.ref 1) QI ↔ QI ⟨xs, [(1, .lst xs)]⟩ := itR rfl
theorem it2 {xs : List PV} : IT (o :: o1 :: .lst xs :: S) (.ref 2) QI ↔ QI ⟨xs, [(2, .lst xs)]⟩ := itR rfl
theorem itB {xs : List PV} : IT (S ++ [.lst xs]) (.ref S.length) QI ↔ QI ⟨xs, [(S.length, .lst xs)]⟩ := itR (by simp)
end
section
variable {x : RV} {a0 a1 a2 a3 a4 a5 a6 a7 a8 a9 b0 b1 b2 b3 b4 b5 b6 b7 b8 b9 : Option RV} {l : Lo} {Q : RV → Sto → Prop}
theorem w_at {i : Nat} (h : r[i]? = some (some x)) : W (eVar i) r S Q ↔ Q x S := by
  rw [w_var]
  constructor
  · rintro ⟨y, h1, q⟩
    rw [h] at h1
    cases h1
    exact q
  · exact fun q => ⟨x, h, q⟩
theorem v0 : W (eVar 0) (some x :: l) S Q ↔ Q x S := w_at rfl
theorem v1 : W (eVar 1) (a0 :: some x :: l) S Q ↔ Q x S := w_at rfl
theorem v2 : W (eVar 2) (a0 :: a1 :: some x :: l) S Q ↔ Q x S := w_at rfl
theorem v3 : W (eVar 3) (a0 :: a1 :: a2 :: some x :: l) S Q ↔ Q x S := w_at rfl
theorem v4 : W (eVar 4) (a0 :: a1 :: a2 :: a3 :: some x :: l) S Q ↔ Q x S := w_at rfl
theorem v5 : W (eVar 5) (a0 :: a1 :: a2 :: a3 :: a4 :: some x :: l) S Q ↔ Q x S := w_at rfl
theorem v6 : W (eVar 6) (a0 :: a1 :: a2 :: a3 :: a4 :: a5 :: some x :: l) S Q ↔ Q x S := w_at rfl
theorem v7 : W (eVar 7) (a0 :: a1 :: a2 :: a3 :: a4 :: a5 :: a6 :: some x :: l) S Q ↔ Q x S := w_at rfl
theorem v8 : W (eVar 8) (a0 :: a1 :: a2 :: a3 :: a4 :: a5 :: a6 :: a7 :: some x :: l) S Q ↔ Q x S := w_at rfl
theorem v9 : W (eVar 9) (a0 :: a1 :: a2 :: a3 :: a4 :: a5 :: a6 :: a7 :: a8 :: some x :: l) S Q ↔ Q x S := w_at rfl
theorem v10 : W (eVar 10) (a0 :: a1 :: a2 :: a3 :: a4 :: a5 :: a6 :: a7 :: a8 :: a9 :: some x :: l) S Q ↔ Q x S := w_at rfl
theorem v11 : W (eVar 11) (a0 :: a1 :: a2 :: a3 :: a4 :: a5 :: a6 :: a7 :: a8 :: a9 :: b0 :: some x :: l) S Q ↔ Q x S := w_at rfl
theorem v12 : W (eVar 12) (a0 :: a1 :: a2 :: a3 :: a4 :: a5 :: a6 :: a7 :: a8 :: a9 :: b0 :: b1 :: some x :: l) S Q ↔ Q x S := w_at rfl
theorem v13 : W (eVar 13) (a0 :: a1 :: a2 :: a3 :: a4 :: a5 :: a6 :: a7 :: a8 :: a9 :: b0 :: b1 :: b2 :: some x :: l) S Q ↔ Q x S := w_at rfl
theorem v14 : W (eVar 14) (a0 :: a1 :: a2 :: a3 :: a4 :: a5 :: a6 :: a7 :: a8 :: a9 :: b0 :: b1 :: b2 :: b3 :: some x :: l) S Q ↔ Q x S := w_at rfl
theorem v15 : W (eVar 15) (a0 :: a1 :: a2 :: a3 :: a4 :: a5 :: a6 :: a7 :: a8 :: a9 :: b0 :: b1 :: b2 :: b3 :: b4 :: some x :: l) S Q ↔ Q x S := w_at rfl
theorem v16 : W (eVar 16) (a0 :: a1 :: a2 :: a3 :: a4 :: a5 :: a6 :: a7 :: a8 :: a9 :: b0 :: b1 :: b2 :: b3 :: b4 :: b5 :: some x :: l) S Q ↔ Q x S := w_at rfl
theorem v17 : W (eVar 17) (a0 :: a1 :: a2 :: a3 :: a4 :: a5 :: a6 :: a7 :: a8 :: a9 :: b0 :: b1 :: b2 :: b3 :: b4 :: b5 :: b6 :: some x :: l) S Q ↔ Q x S := w_at rfl
end
theorem wB' {m : EM RV} : W (tB m) r S QT ↔ W m r S fun x S1 => BO x fun b => QT b S1 := wt_B
theorem wTup' {ms : EM (List RV)} : W (eTup ms) r S Q ↔ W ms r S fun xs S1 => AV xs fun ys => smallL ys.length = true ∧ Q (.v (.tup ys)) S1 := w_Tup
theorem wLst' {ms : EM (List RV)} : W (eLst ms) r S Q ↔ W ms r S fun xs S1 => AV xs fun ys => smallL ys.length = true ∧ Q (.v (.lst ys)) S1 := w_Lst
theorem wLstM' {ms : EM (List RV)} : W (eLstM ms) r S Q ↔ W ms r S fun xs S1 => AV xs fun ys => smallL ys.length = true ∧ Q (.ref S1.length) (S1 ++ [.lst ys]) := w_LstM
theorem woS' {m : EM RV} {QO : Option Int → Sto → Prop} : W (oSome m) r S QO ↔ W m r S fun x S1 => IO' x fun i => QO (some i) S1 := wo_Some
theorem wSq' {m : EM RV} : W (iSq m) r S QI ↔ W m r S fun x S1 => IT S1 x fun it => QI it S1 := wi_Sq
/-- a slice, a number's sign -/
def SL (x : PV) (l h : Option Int) (Q : PV → Prop) : Prop := ∃ z, slP x l h = some z ∧ Q z
def NG (g : PV → Option PV) (x : PV) (Q : PV → Prop) : Prop := ∃ z, g x = some z ∧ Q z
theorem wSl' {ma : EM RV} {ml mh : OM} : W (eSl ma ml mh) r S Q ↔ W ma r S fun x S1 => W ml r S1 fun l S2 => W mh r S2 fun h S3 => P S3 x fun px => SL px l h fun z => Q (.v z) S3 := w_Sl
theorem we1' {g : PV → Option PV} {ma : EM RV} : W (e1 g ma) r S Q ↔ W ma r S fun x S1 => P S1 x fun px => NG g px fun z => Q (.v z) S1 := w_e1
theorem slL {xs : List PV} {l h : Option Int} {Q : PV → Prop} : SL (.lst xs) l h Q ↔ Q (.lst (cutP xs l h)) := ⟨fun ⟨_, a, q⟩ => by cases a; exact q, fun q => ⟨_, rfl, q⟩⟩
theorem slT {xs : List PV} {l h : Option Int} {Q : PV → Prop} : SL (.tup xs) l h Q ↔ Q (.tup (cutP xs l h)) := ⟨fun ⟨_, a, q⟩ => by cases a; exact q, fun q => ⟨_, rfl, q⟩⟩
theorem slS {ns : List Int} {l h : Option Int} {Q : PV → Prop} : SL (.scr ns) l h Q ↔ Q (.lst (cutP (ns.map PV.int) l h)) := ⟨fun ⟨_, a, q⟩ => by cases a; exact q, fun q => ⟨_, rfl, q⟩⟩
theorem ngI {i : Int} {Q : PV → Prop} : NG negP (.int i) Q ↔ Q (.int (-i)) := ⟨fun ⟨_, a, q⟩ => by cases a; exact q, fun q => ⟨_, rfl, q⟩⟩
/-- a store's change -/
def SW (f : Option Sto) (Q : Sto → Prop) : Prop := ∃ S', f = some S' ∧ Q S'
def MW (f : Option (RV × Sto)) (Q : RV → Sto → Prop) : Prop := ∃ y S', f = some (y, S') ∧ Q y S'
def RW' (f : Option RV) (Q : RV → Prop) : Prop := ∃ x, f = some x ∧ Q x
theorem wgSb' {mo mi : EM RV} {f : WM} {x : RV} : WG (gSb mo mi f) x r S QL ↔ W mo r S fun o S1 => W mi r S1 fun i S2 => SW (f o i x S2) fun S' => QL r S' := wg_Sb
theorem wMt' {c : MM} {mo : EM RV} {ms : EM (List RV)} : W (eMt c mo ms) r S Q ↔ W mo r S fun o S1 => isL S1 o = true ∧ W ms r S1 fun xs S2 => MW (c o xs S2) Q := w_Mt
theorem wAugS' {mo mi m : EM RV} {gi : IM} {g : PV → PV → Option PV} {f : WM} : W (sAugS mo mi m gi g f) r S QS ↔ W mo r S fun o S1 => W mi r S1 fun i S2 => RW' (gi o i S2) fun x => W m r S2 fun y S3 => P S3 x fun px => P S3 y fun py => G g px py fun z => SW (f o i (.v z) S3) fun S' => QS (.nx r) S' := ws_AugS
theorem sw_of {f : Option Sto} {S' : Sto} {Q : Sto → Prop} (h : f = some S') : SW f Q ↔ Q S' := ⟨fun ⟨_, a, q⟩ => by rw [h] at a; cases a; exact q, fun q => ⟨_, h, q⟩⟩
theorem mw_of {f : Option (RV × Sto)} {y : RV} {S' : Sto} {Q : RV → Sto → Prop} (h : f = some (y, S')) : MW f Q ↔ Q y S' := ⟨fun ⟨_, _, a, q⟩ => by rw [h] at a; cases a; exact q, fun q => ⟨_, _, h, q⟩⟩
theorem rw_of {f : Option RV} {y : RV} {Q : RV → Prop} (h : f = some y) : RW' f Q ↔ Q y := ⟨fun ⟨_, a, q⟩ => by rw [h] at a; cases a; exact q, fun q => ⟨_, h, q⟩⟩
/-- what a def returns -/
def RT (n : Nat) (Q : RV → Sto → Prop) (o : Out) (S1 : Sto) : Prop := ∃ x y, o = .rt (.one x) ∧ n ≤ S1.length ∧ frz1 n S1 x = some y ∧ Q y (S1.take n)
theorem rt_v {n : Nat} {x : PV} : RT n Q (.rt (.one (.v x))) S ↔ n ≤ S.length ∧ Q (.v x) (S.take n) := by
  constructor
  · rintro ⟨_, _, e, h, f, q⟩
    cases e
    cases f
    exact ⟨h, q⟩
  · rintro ⟨h, q⟩
    exact ⟨_, _, rfl, h, rfl, q⟩
theorem wc_d {nN np : Nat} {mb : SM} {xs : List RV} {Q : RV → Sto → Prop} (hl : xs.length = np) (h : W mb (startL nN xs) S (RT S.length Q)) : WC (fnSem nN np false mb) xs S Q := wc_def hl h
end
end Dn

/-! Dn 17: operations on written values. -/
namespace Dn
open PySem PySem.Spec PyProof.Rows L2
section
variable {Q : PV → Prop} {S : Sto}
theorem G_of {g : PV → PV → Option PV} {x y z : PV} (h : g x y = some z) : G g x y Q ↔ Q z := ⟨fun ⟨_, a, q⟩ => by rw [h] at a; cases a; exact q, fun q => ⟨z, h, q⟩⟩
theorem GL_of {g : List PV → Option PV} {x : List PV} {z : PV} (h : g x = some z) : GL g x Q ↔ Q z := ⟨fun ⟨_, a, q⟩ => by rw [h] at a; cases a; exact q, fun q => ⟨z, h, q⟩⟩
theorem G_if {g : PV → PV → Option PV} {x y z : PV} {b : Bool} (h : g x y = if b = true then some z else none) : G g x y Q ↔ b = true ∧ Q z := by
  cases b with
  | true => exact (G_of (h.trans rfl)).trans ⟨fun q => ⟨rfl, q⟩, fun q => q.2⟩
  | false => exact ⟨(fun ⟨_, a, _⟩ => by rw [h] at a; cases a), fun q => (nomatch q.1)⟩
theorem GL_if {g : List PV → Option PV} {x : List PV} {z : PV} {b : Bool} (h : g x = if b = true then some z else none) : GL g x Q ↔ b = true ∧ Q z := by
  cases b with
  | true => exact (GL_of (h.trans rfl)).trans ⟨fun q => ⟨rfl, q⟩, fun q => q.2⟩
  | false => exact ⟨(fun ⟨_, a, _⟩ => by rw [h] at a; cases a), fun q => (nomatch q.1)⟩
theorem g_add {i j : Int} : G addP (.int i) (.int j) Q ↔ Q (.int (i + j)) := G_of rfl
theorem g_addL {xs ys : List PV} : G addP (.lst xs) (.lst ys) Q ↔ smallL (xs.length + ys.length) = true ∧ Q (.lst (xs ++ ys)) := G_if rfl
theorem g_addT {xs ys : List PV} : G addP (.tup xs) (.tup ys) Q ↔ smallL (xs.length + ys.length) = true ∧ Q (.tup (xs ++ ys)) := G_if rfl
theorem g_iadd {i j : Int} : G iaddP (.int i) (.int j) Q ↔ Q (.int (i + j)) := G_of rfl
theorem g_sub {i j : Int} : G subP (.int i) (.int j) Q ↔ Q (.int (i - j)) := G_of rfl
theorem g_mul {i j : Int} : G mulP (.int i) (.int j) Q ↔ mulOk i j = true ∧ Q (.int (i * j)) := G_if rfl
theorem g_mulL {xs : List PV} {k : Int} : G mulP (.lst xs) (.int k) Q ↔ (decide (0 ≤ k) && decide (k ≤ 1000) && decide (xs.length ≤ 1000)) = true ∧ Q (.lst (List.replicate k.toNat xs).flatten) := G_if rfl
theorem g_fdiv {i j : Int} : G fdivP (.int i) (.int j) Q ↔ divOk j = true ∧ Q (.int (i / j)) := G_if rfl
theorem g_mod {i j : Int} : G modP (.int i) (.int j) Q ↔ 0 < j ∧ Q (.int (i % j)) := by
  have : modP (.int i) (.int j) = if decide (0 < j) = true then some (.int (i % j)) else none := by
    unfold modP
    by_cases h : 0 < j <;> simp [h]
  rw [G_if this, decide_eq_true_eq]
theorem g_pow {i j : Int} : G powP (.int i) (.int j) Q ↔ (decide (0 ≤ j) && decide (j ≤ 1000000) && decide (i.natAbs < 2 ^ 64)) = true ∧ Q (.int (i ^ j.toNat)) := G_if rfl
theorem g_lt {i j : Int} : G ltP (.int i) (.int j) Q ↔ Q (.bl (decide (i < j))) := G_of rfl
theorem g_le {i j : Int} : G leP (.int i) (.int j) Q ↔ Q (.bl (decide (i ≤ j))) := G_of rfl
theorem g_gt {i j : Int} : G gtP (.int i) (.int j) Q ↔ Q (.bl (decide (j < i))) := G_of rfl
theorem g_ge {i j : Int} : G geP (.int i) (.int j) Q ↔ Q (.bl (decide (j ≤ i))) := G_of rfl
theorem eqv_int (i j : Int) : eqvP (.int i) (.int j) = decide (i = j) := by
  unfold eqvP toD
  rw [PyData.eqv]
  by_cases h : i = j <;> simp [h]
theorem g_eqI {i j : Int} : G eqP (.int i) (.int j) Q ↔ Q (.bl (decide (i = j))) := by
  refine (G_of (z := .bl (eqvP (.int i) (.int j))) ?_).trans (by rw [eqv_int])
  rfl
theorem g_neI {i j : Int} : G neP (.int i) (.int j) Q ↔ Q (.bl (!decide (i = j))) := by
  refine (G_of (z := .bl (!eqvP (.int i) (.int j))) ?_).trans (by rw [eqv_int])
  rfl
theorem g_is {x : PV} : G isP x .non Q ↔ Q (.bl (isNon x)) := by
  cases x <;> exact G_of rfl
theorem g_isnt {x : PV} : G isntP x .non Q ↔ Q (.bl (!isNon x)) := by
  cases x <;> exact G_of rfl
theorem g_ixT {xs : List PV} {i : Int} : G ixP (.tup xs) (.int i) Q ↔ AT xs i Q := Iff.rfl
theorem g_ixL {xs : List PV} {i : Int} : G ixP (.lst xs) (.int i) Q ↔ AT xs i Q := Iff.rfl
theorem ixD_eq {t : Bool} {ks vs : List PV} {k : PV} : ixP (.dct t ks vs) k = if kindOk t k = true then lookP k ks vs else none := by
  cases k <;> rfl
theorem g_ixD {t : Bool} {ks vs : List PV} {k : PV} : G ixP (.dct t ks vs) k Q ↔ kindOk t k = true ∧ ∃ z, lookP k ks vs = some z ∧ Q z := by
  unfold G
  rw [ixD_eq]
  cases kindOk t k <;> simp
theorem gl_abs {i : Int} : GL absG [.int i] Q ↔ Q (.int (if i < 0 then -i else i)) := GL_of rfl
theorem gl_max {i j : Int} : GL maxG [.int i, .int j] Q ↔ Q (.int (if j > i then j else i)) := GL_of rfl
theorem gl_min {i j : Int} : GL minG [.int i, .int j] Q ↔ Q (.int (if j < i then j else i)) := GL_of rfl
theorem gl_int {i : Int} : GL intG [.int i] Q ↔ Q (.int i) := GL_of rfl
theorem gl_intB {b : Bool} : GL intG [.bl b] Q ↔ Q (.int (if b then 1 else 0)) := GL_of rfl
theorem gl_gcd {i j : Int} : GL gcdG [.int i, .int j] Q ↔ Q (.int ((Nat.gcd i.natAbs j.natAbs : Nat) : Int)) := GL_of rfl
theorem gl_lenL {xs : List PV} : GL lenG [.lst xs] Q ↔ Q (.int xs.length) := GL_of rfl
theorem gl_lenT {xs : List PV} : GL lenG [.tup xs] Q ↔ Q (.int xs.length) := GL_of rfl
theorem gl_tupL {xs : List PV} : GL tupG [.lst xs] Q ↔ Q (.tup xs) := GL_of rfl
theorem gl_tupT {xs : List PV} : GL tupG [.tup xs] Q ↔ Q (.tup xs) := GL_of rfl
theorem gl_lstL {xs : List PV} : GL lstG [.lst xs] Q ↔ Q (.lst xs) := GL_of rfl
theorem gl_lstT {xs : List PV} : GL lstG [.tup xs] Q ↔ Q (.lst xs) := GL_of rfl
theorem gl_rep {x : PV} : GL repG [x] Q ↔ okR x = true ∧ Q (.str (repP x)) := GL_if rfl
theorem gl_sortD {t : Bool} {ks vs : List PV} : GL sortG [.dct t ks vs] Q ↔ sortOk ks = true ∧ Q (.lst (sortP ks)) := GL_if rfl
theorem gl_sortL {ks : List PV} : GL sortG [.lst ks] Q ↔ sortOk ks = true ∧ Q (.lst (sortP ks)) := GL_if rfl
theorem neg_int {i : Int} : (∃ z, negP (.int i) = some z ∧ Q z) ↔ Q (.int (-i)) := ⟨fun ⟨_, a, q⟩ => by cases a; exact q, fun q => ⟨_, rfl, q⟩⟩
/-! ### items of written lists -/
variable {α : Type} {a b c d e f g h i : α} {l : List α}
theorem atI_nat (l : List α) (n : Nat) : atI l (n : Int) = l[n]? := by
  unfold atI ixN
  by_cases hn : n < l.length
  · simp [hn]
  · simp [hn]
theorem at0 : atI (a :: l) 0 = some a := atI_nat (a :: l) 0
theorem at1 : atI (a :: b :: l) 1 = some b := atI_nat (a :: b :: l) 1
theorem at2 : atI (a :: b :: c :: l) 2 = some c := atI_nat (a :: b :: c :: l) 2
theorem at3 : atI (a :: b :: c :: d :: l) 3 = some d := atI_nat (a :: b :: c :: d :: l) 3
theorem at4 : atI (a :: b :: c :: d :: e :: l) 4 = some e := atI_nat (a :: b :: c :: d :: e :: l) 4
theorem at5 : atI (a :: b :: c :: d :: e :: f :: l) 5 = some f := atI_nat (a :: b :: c :: d :: e :: f :: l) 5
theorem at6 : atI (a :: b :: c :: d :: e :: f :: g :: l) 6 = some g := atI_nat (a :: b :: c :: d :: e :: f :: g :: l) 6
theorem at7 : atI (a :: b :: c :: d :: e :: f :: g :: h :: l) 7 = some h := atI_nat (a :: b :: c :: d :: e :: f :: g :: h :: l) 7
theorem at8 : atI (a :: b :: c :: d :: e :: f :: g :: h :: i :: l) 8 = some i := atI_nat (a :: b :: c :: d :: e :: f :: g :: h :: i :: l) 8
theorem setAll0 {r : Lo} {xs : List RV} : setAll r [] xs = r := by cases xs <;> rfl
theorem setAll1 {r : Lo} {j : Nat} {is : List Nat} {x : RV} {xs : List RV} : setAll r (j :: is) (x :: xs) = setAll (r.set j (some x)) is xs := rfl
theorem allV0 : allV [] = some [] := rfl
theorem allV1 {x : PV} {xs : List RV} : allV (.v x :: xs) = (allV xs).map (x :: ·) := rfl
theorem small_of {n : Nat} : (smallL n = true) ↔ n ≤ 1000000 := decide_eq_true_iff
theorem ex_some {α : Type} {x : α} {Q : α → Prop} : (∃ y, some x = some y ∧ Q y) ↔ Q x := ⟨fun ⟨_, h, q⟩ => by cases h; exact q, fun q => ⟨x, rfl, q⟩⟩

section
variable {Q : PV → Prop} {p0 p1 p2 p3 p4 p5 p6 p7 z : PV} {q : List PV}
theorem at_of {xs : List PV} {i : Int} {z : PV} (h : atI xs i = some z) : AT xs i Q ↔ Q z := ⟨fun ⟨_, a, q⟩ => by rw [h] at a; cases a; exact q, fun q => ⟨_, h, q⟩⟩
theorem t0 : AT (z :: q) 0 Q ↔ Q z := at_of at0
theorem t1 : AT (p0 :: z :: q) 1 Q ↔ Q z := at_of at1
theorem t2 : AT (p0 :: p1 :: z :: q) 2 Q ↔ Q z := at_of at2
theorem t3 : AT (p0 :: p1 :: p2 :: z :: q) 3 Q ↔ Q z := at_of at3
theorem t4 : AT (p0 :: p1 :: p2 :: p3 :: z :: q) 4 Q ↔ Q z := at_of at4
theorem t5 : AT (p0 :: p1 :: p2 :: p3 :: p4 :: z :: q) 5 Q ↔ Q z := at_of at5
theorem t6 : AT (p0 :: p1 :: p2 :: p3 :: p4 :: p5 :: z :: q) 6 Q ↔ Q z := at_of at6
theorem t7 : AT (p0 :: p1 :: p2 :: p3 :: p4 :: p5 :: p6 :: z :: q) 7 Q ↔ Q z := at_of at7
theorem t8 : AT (p0 :: p1 :: p2 :: p3 :: p4 :: p5 :: p6 :: p7 :: z :: q) 8 Q ↔ Q z := at_of at8
end
end

section
variable {S : Sto} {o1 : SO} {p0 p1 p2 p3 x : PV} {Q : Sto → Prop} {QV : RV → Prop} {QR : RV → Sto → Prop} {xs : List PV}
theorem sw0 : SW (wSet (.ref 0) (.v (.int 0)) (.v x) (.lst [p0, p1, p2, p3] :: S)) Q ↔ Q (.lst [x, p1, p2, p3] :: S) := sw_of rfl
theorem sw1 : SW (wSet (.ref 0) (.v (.int 1)) (.v x) (.lst [p0, p1, p2, p3] :: S)) Q ↔ Q (.lst [p0, x, p2, p3] :: S) := sw_of rfl
theorem sw2 : SW (wSet (.ref 0) (.v (.int 2)) (.v x) (.lst [p0, p1, p2, p3] :: S)) Q ↔ Q (.lst [p0, p1, x, p3] :: S) := sw_of rfl
theorem gix2 : RW' (gIx (.ref 0) (.v (.int 2)) (.lst [p0, p1, p2, p3] :: S)) QV ↔ QV (.v p2) := rw_of rfl
theorem app_at {n : Nat} (h : S[n]? = some (.lst xs)) : MW (cApp (.ref n) [.v x] S) QR ↔ xs.length + 1 ≤ 1000000 ∧ QR (.v .non) (S.set n (.lst (xs ++ [x]))) := by
  have e : cApp (.ref n) [.v x] S = if smallL (xs.length + 1) = true then some (.v .non, S.set n (.lst (xs ++ [x]))) else none := by
    unfold cApp
    dsimp only
    rw [h]
  constructor
  · rintro ⟨y, S', h1, q⟩
    rw [e] at h1
    split at h1
    · rename_i hz
      cases h1
      exact ⟨of_decide_eq_true hz, q⟩
    · cases h1
  · rintro ⟨hz, q⟩
    exact ⟨_, _, by rw [e, if_pos (show smallL (xs.length + 1) = true from decide_eq_true hz)], q⟩
theorem app0 : MW (cApp (.ref 0) [.v x] (.lst xs :: S)) QR ↔ xs.length + 1 ≤ 1000000 ∧ QR (.v .non) (.lst (xs ++ [x]) :: S) := app_at rfl
theorem app1 : MW (cApp (.ref 1) [.v x] (o1 :: .lst xs :: S)) QR ↔ xs.length + 1 ≤ 1000000 ∧ QR (.v .non) (o1 :: .lst (xs ++ [x]) :: S) := app_at rfl
theorem app2 {o2 : SO} : MW (cApp (.ref 2) [.v x] (o1 :: o2 :: .lst xs :: S)) QR ↔ xs.length + 1 ≤ 1000000 ∧ QR (.v .non) (o1 :: o2 :: .lst (xs ++ [x]) :: S) := app_at rfl
theorem appB : MW (cApp (.ref S.length) [.v x] (S ++ [.lst xs])) QR ↔ xs.length + 1 ≤ 1000000 ∧ QR (.v .non) (S ++ [.lst (xs ++ [x])]) := by
  rw [app_at (xs := xs) (by simp)]
  rw [List.set_append_right _ _ (Nat.le_refl _), Nat.sub_self]
  rfl
theorem isL_at {n : Nat} (h : S[n]? = some (.lst xs)) : isL S (.ref n) = true := by
  unfold isL peek
  dsimp only
  rw [h]
  rfl
theorem isL0 : (isL (.lst xs :: S) (.ref 0) = true) ↔ True := iff_true_intro (isL_at rfl)
theorem isL1 : (isL (o1 :: .lst xs :: S) (.ref 1) = true) ↔ True := iff_true_intro (isL_at rfl)
theorem isL2 {o2 : SO} : (isL (o1 :: o2 :: .lst xs :: S) (.ref 2) = true) ↔ True := iff_true_intro (isL_at rfl)
theorem isLB : (isL (S ++ [.lst xs]) (.ref S.length) = true) ↔ True := iff_true_intro (isL_at (xs := xs) (by simp))
theorem isLv : (isL S (.v (.lst xs)) = true) ↔ True := iff_true_intro rfl
theorem at_head {ds : List Int} {z : Int} {QP : PV → Prop} : AT (ds.map PV.int ++ [.int z]) 0 QP ↔ QP (.int (ds.headD z)) := by
  cases ds with
  | nil => exact at_of at0
  | cons d ds => exact at_of at0
theorem cut_length (xs : List PV) (lo hi : Option Int) : (cutP xs lo hi).length ≤ xs.length := by
  unfold cutP
  rw [List.length_take, List.length_drop]
  omega
theorem cut_ints (cs : List Int) (lo hi : Option Int) : ∃ ds : List Int, cutP (cs.map PV.int) lo hi = ds.map PV.int ∧ ds.length ≤ cs.length := by
  refine ⟨(cs.drop (HT.sIx (cs.map PV.int).length 0 lo)).take (HT.sIx (cs.map PV.int).length (cs.map PV.int).length hi - HT.sIx (cs.map PV.int).length 0 lo), ?_, ?_⟩
  · unfold cutP
    rw [← List.map_drop, ← List.map_take]
  · rw [List.length_take, List.length_drop]
    omega
end
/-! ### products -/
theorem mul_l {i j : Int} (h1 : -(2 ^ 64) < i) (h2 : i < 2 ^ 64) : mulOk i j = true := by
  unfold mulOk
  rw [Bool.or_eq_true]
  exact .inl (decide_eq_true (by omega))
theorem mul_r {i j : Int} (h1 : -(2 ^ 64) < j) (h2 : j < 2 ^ 64) : mulOk i j = true := by
  unfold mulOk
  rw [Bool.or_eq_true, Bool.or_eq_true]
  exact .inr (.inl (decide_eq_true (by omega)))
theorem div_ok {j : Int} (h1 : 0 < j) (h2 : j < 2 ^ 60) : divOk j = true := by
  unfold divOk
  rw [Bool.and_eq_true, decide_eq_true_eq, decide_eq_true_eq]
  refine ⟨h1, ?_⟩
  have h3 : j.natAbs < 2 ^ 60 := by omega
  have h4 : j.natAbs ≠ 0 := by omega
  have := (Nat.log2_lt h4).mpr h3
  omega
end Dn

/-! Dn 18: loops and comprehensions by invariants; bounds of products. -/
namespace Dn
open PySem PySem.Spec PyProof.Rows L2
section
variable {src : List (Nat × SO)} {g : GM} {body : SM} {mt : EM Bool} {me : EM RV} {r : Lo} {S : Sto}
/-- what a turn leaves -/
def turnQ (I : Lo → Sto → Prop) (Q : Out → Sto → Prop) (o : Out) (S : Sto) : Prop := match o with
  | .nx r => I r S
  | .ct r => I r S
  | .bk r => Q (.nx r) S
  | .rt v => Q (.rt v) S
theorem turn_nx {I : Lo → Sto → Prop} {Q : Out → Sto → Prop} {r : Lo} {S : Sto} : turnQ I Q (.nx r) S ↔ I r S := Iff.rfl
theorem wf_nil {Q : Out → Sto → Prop} : WF src g body [] r S Q ↔ Itm.ok src S ∧ Q (.nx r) S := by
  constructor
  · rintro ⟨o, S', h, q⟩
    unfold forL at h
    split at h
    · rename_i hk
      cases h
      exact ⟨hk, q⟩
    · cases h
  · rintro ⟨hk, q⟩
    exact ⟨_, _, by unfold forL; exact if_pos hk, q⟩
def afterT (k : Lo → Sto → Option (Out × Sto)) (o : Out) (S2 : Sto) : Option (Out × Sto) := match o with
  | .nx r => k r S2
  | .ct r => k r S2
  | .bk r => some (.nx r, S2)
  | .rt v => some (.rt v, S2)
theorem wf_cons {x : PV} {xs : List PV} {Q : Out → Sto → Prop} : WF src g body (x :: xs) r S Q ↔ Itm.ok src S ∧ WG g (.v x) r S fun r1 S1 => W body r1 S1 (turnQ (fun r2 S2 => WF src g body xs r2 S2 Q) Q) := by
  constructor
  · rintro ⟨o, S', h, q⟩
    unfold forL at h
    split at h
    · rename_i hk
      obtain ⟨⟨r1, S1⟩, h1, h⟩ := Option.bind_eq_some_iff.mp h
      obtain ⟨⟨o1, S2⟩, h2, h⟩ := Option.bind_eq_some_iff.mp h
      refine ⟨hk, r1, S1, h1, o1, S2, h2, ?_⟩
      cases o1 with
      | nx r2 => exact ⟨o, S', h, q⟩
      | ct r2 => exact ⟨o, S', h, q⟩
      | bk r2 =>
        cases h
        exact q
      | rt v =>
        cases h
        exact q
    · cases h
  · rintro ⟨hk, r1, S1, h1, o1, S2, h2, q⟩
    have e : forL src g body (x :: xs) r S = afterT (fun r2 S2 => forL src g body xs r2 S2) o1 S2 := by
      rw [forL, if_pos hk, h1]
      show ((body r1 S1).bind _) = _
      rw [h2]
      cases o1 <;> rfl
    cases o1 with
    | nx r2 =>
      obtain ⟨o, S', h, q⟩ := q
      exact ⟨o, S', by rw [e]; exact h, q⟩
    | ct r2 =>
      obtain ⟨o, S', h, q⟩ := q
      exact ⟨o, S', by rw [e]; exact h, q⟩
    | bk r2 => exact ⟨_, _, e, q⟩
    | rt v => exact ⟨_, _, e, q⟩
theorem wf_inv {xs : List PV} {Q : Out → Sto → Prop} (I : Nat → Lo → Sto → Prop) (h0 : I 0 r S) (step : ∀ i x r S, xs[i]? = some x → I i r S → Itm.ok src S ∧ WG g (.v x) r S fun r1 S1 => W body r1 S1 (turnQ (I (i + 1)) Q)) (fin : ∀ r S, I xs.length r S → Itm.ok src S ∧ Q (.nx r) S) : WF src g body xs r S Q := by
  have key : ∀ (ys : List PV) (k : Nat) (r : Lo) (S : Sto), xs.drop k = ys → k + ys.length = xs.length → I k r S → WF src g body ys r S Q := by
    intro ys
    induction ys with
    | nil =>
      intro k r S _ hk hI
      have : k = xs.length := by simpa using hk
      subst this
      exact wf_nil.mpr (fin r S hI)
    | cons y ys ih =>
      intro k r S hd hk hI
      have hy : xs[k]? = some y := by
        have := congrArg (fun l => l[0]?) hd
        simpa using this
      obtain ⟨ok, r1, S1, h1, hb⟩ := step k y r S hy hI
      refine wf_cons.mpr ⟨ok, r1, S1, h1, hb.mono ?_⟩
      have nx : ∀ r2 S2, I (k + 1) r2 S2 → WF src g body ys r2 S2 Q := fun r2 S2 hI2 => ih (k + 1) r2 S2 (by rw [← List.drop_drop, hd]; rfl) (by simp at hk; omega) hI2
      rintro o S2 q
      cases o with
      | nx r2 => exact nx r2 S2 q
      | ct r2 => exact nx r2 S2 q
      | bk r2 => exact q
      | rt v => exact q
  exact key xs 0 r S rfl (by simp) h0
theorem wl_nil {Q : List PV → Sto → Prop} : WL src g mt me r [] S Q ↔ Itm.ok src S ∧ Q [] S := by
  constructor
  · rintro ⟨o, S', h, q⟩
    unfold lcL at h
    split at h
    · rename_i hk
      cases h
      exact ⟨hk, q⟩
    · cases h
  · rintro ⟨hk, q⟩
    exact ⟨_, _, by unfold lcL; exact if_pos hk, q⟩
theorem wl_cons {x : PV} {xs : List PV} {Q : List PV → Sto → Prop} : WL src g mt me r (x :: xs) S Q ↔ Itm.ok src S ∧ WG g (.v x) r S fun r1 S1 => W mt r1 S1 fun b S2 => if b = true then W me r1 S2 fun y S3 => ∃ z, y = .v z ∧ WL src g mt me r xs S3 fun zs S4 => Q (z :: zs) S4 else WL src g mt me r xs S2 Q := by
  constructor
  · rintro ⟨o, S', h, q⟩
    unfold lcL at h
    split at h
    · rename_i hk
      obtain ⟨⟨r1, S1⟩, h1, h⟩ := Option.bind_eq_some_iff.mp h
      obtain ⟨⟨b, S2⟩, h2, h⟩ := Option.bind_eq_some_iff.mp h
      refine ⟨hk, r1, S1, h1, b, S2, h2, ?_⟩
      cases b with
      | true =>
        obtain ⟨⟨y, S3⟩, h3, h⟩ := Option.bind_eq_some_iff.mp h
        refine ⟨y, S3, h3, ?_⟩
        cases y with
        | ref n => cases h
        | v z =>
          obtain ⟨⟨zs, S4⟩, h4, h⟩ := Option.map_eq_some_iff.mp h
          cases h
          exact ⟨z, rfl, zs, _, h4, q⟩
      | false => exact ⟨o, S', h, q⟩
    · cases h
  · rintro ⟨hk, r1, S1, h1, b, S2, h2, q⟩
    cases b with
    | true =>
      obtain ⟨_, S3, h3, z, rfl, zs, S4, h4, q⟩ := q
      refine ⟨_, _, ?_, q⟩
      rw [lcL, if_pos hk, h1]
      show ((mt r1 S1).bind _) = _
      rw [h2]
      show ((me r1 S2).bind _) = _
      rw [h3]
      show ((lcL src g mt me r xs S3).map _) = _
      rw [h4]
      rfl
    | false =>
      obtain ⟨zs, S', h, q⟩ := q
      refine ⟨_, _, ?_, q⟩
      rw [lcL, if_pos hk, h1]
      show ((mt r1 S1).bind _) = _
      rw [h2]
      exact h
theorem wl_inv {xs : List PV} {Q : List PV → Sto → Prop} (I : Nat → List PV → Sto → Prop) (h0 : I 0 [] S)
    (step : ∀ i x acc S, xs[i]? = some x → I i acc S → Itm.ok src S ∧ WG g (.v x) r S fun r1 S1 => W mt r1 S1 fun b S2 => if b = true then W me r1 S2 fun y S3 => ∃ z, y = .v z ∧ I (i + 1) (acc ++ [z]) S3 else I (i + 1) acc S2)
    (fin : ∀ acc S, I xs.length acc S → Itm.ok src S ∧ Q acc S) : WL src g mt me r xs S Q := by
  have key : ∀ (ys : List PV) (k : Nat) (acc : List PV) (S : Sto), xs.drop k = ys → k + ys.length = xs.length → I k acc S → WL src g mt me r ys S fun zs S' => Q (acc ++ zs) S' := by
    intro ys
    induction ys with
    | nil =>
      intro k acc S _ hk hI
      have : k = xs.length := by simpa using hk
      subst this
      obtain ⟨ok, q⟩ := fin acc S hI
      exact wl_nil.mpr ⟨ok, by rw [List.append_nil]; exact q⟩
    | cons y ys ih =>
      intro k acc S hd hk hI
      have hy : xs[k]? = some y := by
        have := congrArg (fun l => l[0]?) hd
        simpa using this
      obtain ⟨ok, r1, S1, h1, b, S2, h2, q⟩ := step k y acc S hy hI
      refine wl_cons.mpr ⟨ok, r1, S1, h1, b, S2, h2, ?_⟩
      have hd' : xs.drop (k + 1) = ys := by
        rw [← List.drop_drop, hd]
        rfl
      have hk' : k + 1 + ys.length = xs.length := by
        simp at hk
        omega
      cases b with
      | true =>
        obtain ⟨y', S3, h3, z, rfl, hI2⟩ := q
        refine ⟨_, S3, h3, z, rfl, (ih (k + 1) (acc ++ [z]) S3 hd' hk' hI2).mono ?_⟩
        intro zs S4 q
        rw [List.append_assoc] at q
        exact q
      | false => exact ih (k + 1) acc S2 hd' hk' q
  exact (key xs 0 [] S rfl (by simp) h0).mono fun zs S' q => q
/-- .. where nothing is drawn: the tests and the values are known -/
theorem wl_pure {xs : List PV} {Q : List PV → Sto → Prop} (p : PV → Bool) (f : PV → PV) (ok : Itm.ok src S)
    (step : ∀ x ∈ xs, WG g (.v x) r S fun r1 S1 => W mt r1 S1 fun b S2 => S2 = S ∧ b = p x ∧ (p x = true → W me r1 S fun y S3 => y = .v (f x) ∧ S3 = S))
    (q : Q ((xs.filter p).map f) S) : WL src g mt me r xs S Q := by
  induction xs generalizing Q with
  | nil => exact wl_nil.mpr ⟨ok, q⟩
  | cons x xs ih =>
    obtain ⟨r1, S1, h1, b, S2, h2, e1, e2, h3⟩ := step x List.mem_cons_self
    subst e1 e2
    refine wl_cons.mpr ⟨ok, r1, S1, h1, p x, S2, h2, ?_⟩
    have ih' := fun Q' q' => ih (Q := Q') (fun y hy => step y (List.mem_cons_of_mem _ hy)) q'
    cases hp : p x with
    | true =>
      obtain ⟨y, S3, h4, e3, e4⟩ := h3 hp
      subst e3 e4
      refine ⟨_, _, h4, f x, rfl, ih' _ ?_⟩
      rw [List.filter_cons_of_pos hp, List.map_cons] at q
      exact q
    | false =>
      refine ih' Q ?_
      rw [List.filter_cons_of_neg (by rw [hp]; exact Bool.false_ne_true)] at q
      exact q
theorem wlc {mi : EM Itm} {vs : List Nat} {Q : List PV → Sto → Prop} : (∃ zs S', lcR mi vs g mt me r S = some (zs, S') ∧ Q zs S') ↔ W mi r S fun it S1 => smallL it.xs.length = true ∧ WL it.src g mt me (wipeL r vs) it.xs S1 Q := by
  constructor
  · rintro ⟨zs, S', h, q⟩
    obtain ⟨⟨it, S1⟩, h1, h⟩ := Option.bind_eq_some_iff.mp h
    split at h
    · rename_i hz
      exact ⟨it, S1, h1, hz, zs, S', h, q⟩
    · cases h
  · rintro ⟨it, S1, h1, hz, zs, S', h, q⟩
    refine ⟨zs, S', ?_, q⟩
    unfold lcR
    rw [h1]
    exact (if_pos hz).trans h
theorem w_Lc {mi : EM Itm} {vs : List Nat} {Q : RV → Sto → Prop} : W (eLc mi vs g mt me) r S Q ↔ W mi r S fun it S1 => smallL it.xs.length = true ∧ WL it.src g mt me (wipeL r vs) it.xs S1 fun zs S2 => Q (.v (.lst zs)) S2 := by
  rw [← wlc]
  constructor
  · rintro ⟨x, S', h, q⟩
    obtain ⟨⟨zs, S2⟩, h1, h⟩ := Option.map_eq_some_iff.mp h
    cases h
    exact ⟨zs, _, h1, q⟩
  · rintro ⟨zs, S', h, q⟩
    exact ⟨_, _, by unfold eLc; rw [h]; rfl, q⟩
theorem w_LcM {mi : EM Itm} {vs : List Nat} {Q : RV → Sto → Prop} : W (eLcM mi vs g mt me) r S Q ↔ W mi r S fun it S1 => smallL it.xs.length = true ∧ WL it.src g mt me (wipeL r vs) it.xs S1 fun zs S2 => Q (.ref S2.length) (S2 ++ [.lst zs]) := by
  rw [← wlc]
  constructor
  · rintro ⟨x, S', h, q⟩
    obtain ⟨⟨zs, S2⟩, h1, h⟩ := Option.map_eq_some_iff.mp h
    cases h
    exact ⟨zs, _, h1, q⟩
  · rintro ⟨zs, S', h, q⟩
    exact ⟨_, _, by unfold eLcM; rw [h]; rfl, q⟩
/-- while, by a measure -/
theorem ww_inv {t : EM Bool} {Q : Out → Sto → Prop} (I : Nat → Lo → Sto → Prop) (n : Nat) (h0 : I n r S) (step : ∀ n r S, I n r S → W t r S fun b S1 => if b = true then W body r S1 (turnQ (fun r2 S2 => ∃ m, m < n ∧ I m r2 S2) Q) else Q (.nx r) S1) : W (sWhile t body) r S Q := by
  have key : ∀ (n : Nat) (r : Lo) (S : Sto), I n r S → ∃ k o S', whileL t body k r S = some (o, S') ∧ Q o S' := by
    intro n
    induction n using Nat.strongRecOn with
    | _ n ih =>
      intro r S hI
      obtain ⟨b, S1, h1, q⟩ := step n r S hI
      cases b with
      | false =>
        refine ⟨1, .nx r, S1, ?_, q⟩
        unfold whileL
        rw [h1]
        rfl
      | true =>
        obtain ⟨o, S2, h2, q⟩ := q
        have e : ∀ k, whileL t body (k + 1) r S = afterT (fun r2 S2 => whileL t body k r2 S2) o S2 := by
          intro k
          rw [whileL, h1]
          show ((body r S1).bind _) = _
          rw [h2]
          cases o <;> rfl
        cases o with
        | nx r2 =>
          obtain ⟨m, hm, hI2⟩ := q
          obtain ⟨k, o, S', h, q⟩ := ih m hm r2 S2 hI2
          exact ⟨k + 1, o, S', by rw [e k]; exact h, q⟩
        | ct r2 =>
          obtain ⟨m, hm, hI2⟩ := q
          obtain ⟨k, o, S', h, q⟩ := ih m hm r2 S2 hI2
          exact ⟨k + 1, o, S', by rw [e k]; exact h, q⟩
        | bk r2 => exact ⟨1, _, _, e 0, q⟩
        | rt v => exact ⟨1, _, _, e 0, q⟩
  obtain ⟨k, o, S', h, q⟩ := key n r S h0
  exact ⟨o, S', sWhile_of h, q⟩
end
theorem wipeL_nil {r : Lo} : wipeL r [] = r := rfl
theorem wipeL_cons {r : Lo} {v : Nat} {vs : List Nat} : wipeL r (v :: vs) = (wipeL r vs).set v none := rfl
/-! ### bounds -/
def Bd (A : Nat) (a : Int) : Prop := a.natAbs ≤ A
theorem Bd.mul {A B : Nat} {a b : Int} (h : Bd A a) (g : Bd B b) : Bd (A * B) (a * b) := by
  unfold Bd at *
  rw [Int.natAbs_mul]
  exact Nat.mul_le_mul h g
theorem Bd.add {A B : Nat} {a b : Int} (h : Bd A a) (g : Bd B b) : Bd (A + B) (a + b) := by
  unfold Bd at *
  omega
theorem Bd.sub {A B : Nat} {a b : Int} (h : Bd A a) (g : Bd B b) : Bd (A + B) (a - b) := by
  unfold Bd at *
  omega
theorem Bd.of {A : Nat} {a : Int} (h1 : -(A : Int) ≤ a) (h2 : a ≤ A) : Bd A a := by
  unfold Bd
  omega
theorem Bd.l {A : Nat} {i j : Int} (h : Bd A i) (hA : A < 2 ^ 64) : mulOk i j = true := by
  unfold Bd at h
  exact mul_l (by omega) (by omega)
theorem Bd.r {A : Nat} {i j : Int} (h : Bd A j) (hA : A < 2 ^ 64) : mulOk i j = true := by
  unfold Bd at h
  exact mul_r (by omega) (by omega)
theorem rt_n {n : Nat} {S : Sto} {Q : RV → Sto → Prop} {o : Out} {x y : RV} (e : o = .rt (.one x)) (h : n ≤ S.length) (f : frz1 n S x = some y) (q : Q y (S.take n)) : RT n Q o S := ⟨x, y, e, h, f, q⟩
theorem end0 {S : Sto} {Q : Sto → Prop} (q : Q S) : S.length ≤ S.length ∧ Q (List.take S.length S) := by
  rw [List.take_length]
  exact ⟨Nat.le_refl _, q⟩
section
variable {r : Lo} {S : Sto}
def RG (f : List RV → Option Itm) (xs : List RV) (Q : Itm → Prop) : Prop := ∃ it, f xs = some it ∧ Q it
def RL (f : List RV → Option (List PV)) (xs : List RV) (Q : List PV → Prop) : Prop := ∃ it, f xs = some it ∧ Q it
theorem wRg' {f : List RV → Option Itm} {ms : EM (List RV)} {QI : Itm → Sto → Prop} : W (iRg f ms) r S QI ↔ W ms r S fun xs S1 => RG f xs fun it => QI it S1 := wi_Rg
theorem wRlv {f : List RV → Option (List PV)} {ms : EM (List RV)} {Q : RV → Sto → Prop} : W (eRl false f ms) r S Q ↔ W ms r S fun xs S1 => RL f xs fun ys => Q (.v (.lst ys)) S1 := w_Rl
theorem wRlm {f : List RV → Option (List PV)} {ms : EM (List RV)} {Q : RV → Sto → Prop} : W (eRl true f ms) r S Q ↔ W ms r S fun xs S1 => RL f xs fun ys => Q (.ref S1.length) (S1 ++ [.lst ys]) := w_Rl
theorem ex_if {α : Type} {f : Option α} {x : α} {b : Bool} {Q : α → Prop} (h : f = if b = true then some x else none) : (∃ y, f = some y ∧ Q y) ↔ b = true ∧ Q x := by
  cases b with
  | true =>
    have e : f = some x := h
    constructor
    · rintro ⟨y, h1, q⟩
      rw [e] at h1
      cases h1
      exact ⟨rfl, q⟩
    · rintro ⟨_, q⟩
      exact ⟨x, e, q⟩
  | false =>
    have e : f = none := h
    constructor
    · rintro ⟨y, h1, q⟩
      rw [e] at h1
      cases h1
    · rintro ⟨h1, _⟩
      cases h1
theorem rg1 {j : Int} {Q : Itm → Prop} : RG rng1 [.v (.int j)] Q ↔ big62 j = true ∧ Q ⟨rngV 0 j.toNat, []⟩ := ex_if rfl
theorem rg2 {i j : Int} {Q : Itm → Prop} : RG rng2 [.v (.int i), .v (.int j)] Q ↔ (big62 i && big62 j) = true ∧ Q ⟨rngV i (j - i).toNat, []⟩ := ex_if rfl
theorem rg3 {i j c : Int} {Q : Itm → Prop} : RG rng3 [.v (.int i), .v (.int j), .v (.int c)] Q ↔ (decide (c = -1) && (big62 i && big62 j)) = true ∧ Q ⟨rngC i (-1) (i - j).toNat, []⟩ := ex_if rfl
theorem rl1 {j : Int} {Q : List PV → Prop} : RL rgl1 [.v (.int j)] Q ↔ (big62 j && smallL j.toNat) = true ∧ Q (rngV 0 j.toNat) := ex_if rfl
theorem rl2 {i j : Int} {Q : List PV → Prop} : RL rgl2 [.v (.int i), .v (.int j)] Q ↔ ((big62 i && big62 j) && smallL (j - i).toNat) = true ∧ Q (rngV i (j - i).toNat) := ex_if rfl
theorem rl3 {i j c : Int} {Q : List PV → Prop} : RL rgl3 [.v (.int i), .v (.int j), .v (.int c)] Q ↔ (decide (c = -1) && ((big62 i && big62 j) && smallL (i - j).toNat)) = true ∧ Q (rngC i (-1) (i - j).toNat) := ex_if rfl
theorem rngV_get {lo : Int} {n i : Nat} {x : PV} (h : (rngV lo n)[i]? = some x) : i < n ∧ x = .int (lo + i) := by
  unfold rngV at h
  rw [List.getElem?_map] at h
  obtain ⟨j, hj, rfl⟩ := Option.map_eq_some_iff.mp h
  obtain ⟨h1, h2⟩ := List.getElem?_eq_some_iff.mp hj
  rw [List.getElem_range] at h2
  subst h2
  rw [List.length_range] at h1
  exact ⟨h1, rfl⟩
theorem rngV_length {lo : Int} {n : Nat} : (rngV lo n).length = n := by simp [rngV]
theorem rngC_length {lo c : Int} {n : Nat} : (rngC lo c n).length = n := by simp [rngC]
theorem big_of {i : Int} (h1 : -(2 ^ 62) ≤ i) (h2 : i < 2 ^ 62) : big62 i = true := by
  unfold big62
  rw [Bool.and_eq_true, decide_eq_true_eq, decide_eq_true_eq]
  exact ⟨h1, h2⟩
end
section
variable {r : Lo} {S : Sto} {xs ys : List PV}
theorem rtB {Q : RV → Sto → Prop} : RT S.length Q (.rt (.one (.ref S.length))) (S ++ [.lst xs]) ↔ Q (.v (.lst xs)) S := by
  have e1 : frz1 S.length (S ++ [.lst xs]) (.ref S.length) = some (.v (.lst xs)) := by
    unfold frz1
    simp [SO.pv]
  have e2 : List.take S.length (S ++ [SO.lst xs]) = S := by simp
  constructor
  · rintro ⟨x, y, e, h, f, q⟩
    cases e
    rw [e1] at f
    cases f
    rw [e2] at q
    exact q
  · exact fun q => ⟨_, _, rfl, by simp, e1, by rw [e2]; exact q⟩
theorem rtV {Q : RV → Sto → Prop} {x : PV} {o : SO} : RT S.length Q (.rt (.one (.v x))) (S ++ [o]) ↔ Q (.v x) S := by
  have e2 : List.take S.length (S ++ [o]) = S := by simp
  constructor
  · rintro ⟨x, y, e, h, f, q⟩
    cases e
    cases f
    rw [e2] at q
    exact q
  · exact fun q => ⟨_, _, rfl, by simp, rfl, by rw [e2]; exact q⟩
def ZP (S : Sto) (xs : List RV) (Q : Itm → Prop) : Prop := ∃ x y, xs = [x, y] ∧ ((isLst S x && isLst S y) || (isTup x && isTup y)) = true ∧ ∃ it, itOf S x = some it ∧ ∃ jt, itOf S y = some jt ∧ Q ⟨zipL it.xs jt.xs, it.src ++ jt.src⟩
theorem wZp' {ms : EM (List RV)} {QI : Itm → Sto → Prop} : W (iZp ms) r S QI ↔ W ms r S fun xs S1 => ZP S1 xs fun it => QI it S1 := wi_Zp
theorem zp_of {a b : RV} {Q : Itm → Prop} {it jt : Itm} (h : ((isLst S a && isLst S b) || (isTup a && isTup b)) = true) (h1 : itOf S a = some it) (h2 : itOf S b = some jt) : ZP S [a, b] Q ↔ Q ⟨zipL it.xs jt.xs, it.src ++ jt.src⟩ := by
  constructor
  · rintro ⟨x, y, e, _, it', e1, jt', e2, q⟩
    cases e
    rw [h1] at e1
    rw [h2] at e2
    cases e1
    cases e2
    exact q
  · exact fun q => ⟨_, _, rfl, h, _, h1, _, h2, q⟩
theorem itB_eq : itOf (S ++ [.lst ys]) (.ref S.length) = some ⟨ys, [(S.length, .lst ys)]⟩ := by
  have e : (S ++ [SO.lst ys])[S.length]? = some (.lst ys) := by simp
  unfold itOf
  dsimp only
  rw [e]
theorem zpVV {Q : Itm → Prop} : ZP S [.v (.lst xs), .v (.lst ys)] Q ↔ Q ⟨zipL xs ys, []⟩ := zp_of (it := ⟨xs, []⟩) (jt := ⟨ys, []⟩) rfl rfl rfl
theorem zpVB {Q : Itm → Prop} : ZP (S ++ [.lst ys]) [.v (.lst xs), .ref S.length] Q ↔ Q ⟨zipL xs ys, [(S.length, .lst ys)]⟩ := zp_of (it := ⟨xs, []⟩) (jt := ⟨ys, [(S.length, .lst ys)]⟩) rfl rfl itB_eq
def EN (S : Sto) (xs : List RV) (Q : Itm → Prop) : Prop := ∃ x, xs = [x] ∧ isLst S x = true ∧ ∃ it, itOf S x = some it ∧ Q ⟨enumL 0 it.xs, it.src⟩
theorem wEn' {ms : EM (List RV)} {QI : Itm → Sto → Prop} : W (iEn ms) r S QI ↔ W ms r S fun xs S1 => EN S1 xs fun it => QI it S1 := wi_En
theorem enV {Q : Itm → Prop} : EN S [.v (.lst xs)] Q ↔ Q ⟨enumL 0 xs, []⟩ := by
  constructor
  · rintro ⟨x, e, _, it, e1, q⟩
    cases e
    cases e1
    exact q
  · exact fun q => ⟨_, rfl, rfl, _, rfl, q⟩
theorem okB : Itm.ok [(S.length, .lst xs)] (S ++ [.lst xs]) := by
  intro p hp
  have : p = (S.length, .lst xs) := by simpa using hp
  subst this
  simp
theorem plainL_ints : ∀ ts : List Int, plainL (ts.map PV.int) = true
  | [] => rfl
  | t :: ts => by
    show (plainP (.int t) && plainL (ts.map PV.int)) = true
    rw [plainL_ints ts]
    rfl
theorem depL_ints : ∀ ts : List Int, depL (ts.map PV.int) = 0
  | [] => rfl
  | t :: ts => by
    show max (dep (.int t)) (depL (ts.map PV.int)) = 0
    rw [depL_ints ts]
    rfl
theorem anyP_ints (i : Int) : ∀ ts : List Int, anyP (.int i) (ts.map PV.int) = decide (i ∈ ts)
  | [] => by simp [anyP]
  | t :: ts => by
    show (eqvP (.int t) (.int i) || anyP (.int i) (ts.map PV.int)) = _
    rw [anyP_ints i ts, eqv_int]
    by_cases h : t = i
    · subst h
      simp
    · have h' : ¬ i = t := fun e => h e.symm
      simp [h, h']
theorem inB_ints {i : Int} {ts : List Int} : inB (.int i) (.lst (ts.map PV.int)) = some (decide (i ∈ ts)) := by
  have e : ∀ xs : List PV, inB (.int i) (.lst xs) = if (plainL xs && decide (depL xs ≤ 50) && dataOk (.int i)) = true then some (anyP (.int i) xs) else none := fun _ => rfl
  rw [e, plainL_ints, depL_ints, anyP_ints]
  rfl
theorem g_ninI {i : Int} {ts : List Int} {Q : PV → Prop} : G ninP (.int i) (.lst (ts.map PV.int)) Q ↔ Q (.bl (!decide (i ∈ ts))) := G_of (by unfold ninP; rw [inB_ints]; rfl)
theorem g_inI {i : Int} {ts : List Int} {Q : PV → Prop} : G inP (.int i) (.lst (ts.map PV.int)) Q ↔ Q (.bl (decide (i ∈ ts))) := G_of (by unfold inP; rw [inB_ints]; rfl)
theorem php : ∀ (m : Nat) (ts : List Int), (∀ i : Nat, i < m → (i : Int) ∈ ts) → m ≤ ts.length
  | 0, _, _ => Nat.zero_le _
  | m + 1, ts, h => by
    have hm : (m : Int) ∈ ts := h m (Nat.lt_succ_self m)
    have := php m (ts.erase (m : Int)) fun i hi => (List.mem_erase_of_ne (by omega)).mpr (h i (by omega))
    rw [List.length_erase_of_mem hm] at this
    have hp : 0 < ts.length := List.length_pos_of_mem hm
    omega
theorem at_head_of {Q : PV → Prop} (h : xs ≠ []) (k : ∀ x, x ∈ xs → Q x) : AT xs 0 Q := by
  cases xs with
  | nil => exact absurd rfl h
  | cons x xs => exact (at_of at0).mpr (k x List.mem_cons_self)
theorem zip_mem : ∀ {xs ys : List PV} {z : PV}, z ∈ zipL xs ys → ∃ x y, x ∈ xs ∧ y ∈ ys ∧ z = .tup [x, y]
  | [], _, _, h => by simp [zipL] at h
  | x :: xs, [], _, h => by simp [zipL] at h
  | x :: xs, y :: ys, z, h => by
    simp only [zipL, List.mem_cons] at h
    rcases h with rfl | h
    · exact ⟨x, y, List.mem_cons_self, List.mem_cons_self, rfl⟩
    · obtain ⟨a, b, h1, h2, h3⟩ := zip_mem h
      exact ⟨a, b, List.mem_cons_of_mem _ h1, List.mem_cons_of_mem _ h2, h3⟩
theorem zip_le : ∀ (xs ys : List PV), (zipL xs ys).length ≤ ys.length
  | [], _ => Nat.zero_le _
  | x :: xs, [] => Nat.le_refl _
  | x :: xs, y :: ys => Nat.succ_le_succ (zip_le xs ys)
end
section
variable {S : Sto} {o o1 : SO}
theorem dset_at {n : Nat} {t : Bool} {ks vs : List PV} {k x : PV} {Q : Sto → Prop} (h : S[n]? = some (.dct t ks vs)) (hk : kindOk t k = true) (hz : vs.length + 1 ≤ 1000000) : SW (wSet (.ref n) (.v k) (.v x) S) Q ↔ Q (S.set n (.dct t (putP k x ks vs).1 (putP k x ks vs).2)) := by
  refine sw_of ?_
  have e : wIn x (.dct t ks vs) k = if kindOk t k && smallL (vs.length + 1) then some (.dct t (putP k x ks vs).1 (putP k x ks vs).2) else none := by
    cases k <;> rfl
  have e2 : smallL (vs.length + 1) = true := decide_eq_true hz
  unfold wSet
  dsimp only
  rw [h]
  show (wIn x (.dct t ks vs) k).map _ = _
  rw [e, hk, e2]
  rfl
theorem rtA {Q : RV → Sto → Prop} {x : PV} : RT (S.length + 1) Q (.rt (.one (.v x))) (o :: (S ++ [o1])) ↔ Q (.v x) (o :: S) := by
  have e2 : List.take (S.length + 1) (o :: (S ++ [o1])) = o :: S := by simp
  constructor
  · rintro ⟨x, y, e, h, f, q⟩
    cases e
    cases f
    rw [e2] at q
    exact q
  · exact fun q => ⟨_, _, rfl, by simp, rfl, by rw [e2]; exact q⟩
theorem atA : (o :: (S ++ [o1]))[S.length + 1]? = some o1 := by simp
theorem setA {o2 : SO} : (o :: (S ++ [o1])).set (S.length + 1) o2 = o :: (S ++ [o2]) := by
  rw [List.set_cons_succ, List.set_append_right _ _ (Nat.le_refl _), Nat.sub_self]
  rfl
end
section
variable {l : Lo} {S : Sto} {m : EM RV} {g : PV → PV → Option PV} {QS : Out → Sto → Prop} {x : PV} {q0 q1 q2 q3 q4 q5 q6 q7 q8 q9 q10 q11 q12 q13 q14 q15 q16 : Option RV}
theorem aug_at {r : Lo} {i : Nat} (h : r[i]? = some (some (.v x))) : W (sAug i m g) r S QS ↔ W m r S fun y S1 => P S1 y fun py => G g x py fun z => QS (.nx (r.set i (some (.v z)))) S1 := by
  rw [ws_Aug]
  constructor
  · rintro ⟨y, h1, q⟩
    rw [h] at h1
    cases h1
    exact q
  · exact fun q => ⟨x, h, q⟩
theorem aug0 : W (sAug 0 m g) (some (.v x) :: l) S QS ↔ W m (some (.v x) :: l) S fun y S1 => P S1 y fun py => G g x py fun z => QS (.nx ((some (.v x) :: l).set 0 (some (.v z)))) S1 := aug_at rfl
theorem aug1 : W (sAug 1 m g) (q0 :: some (.v x) :: l) S QS ↔ W m (q0 :: some (.v x) :: l) S fun y S1 => P S1 y fun py => G g x py fun z => QS (.nx ((q0 :: some (.v x) :: l).set 1 (some (.v z)))) S1 := aug_at rfl
theorem aug2 : W (sAug 2 m g) (q0 :: q1 :: some (.v x) :: l) S QS ↔ W m (q0 :: q1 :: some (.v x) :: l) S fun y S1 => P S1 y fun py => G g x py fun z => QS (.nx ((q0 :: q1 :: some (.v x) :: l).set 2 (some (.v z)))) S1 := aug_at rfl
theorem aug3 : W (sAug 3 m g) (q0 :: q1 :: q2 :: some (.v x) :: l) S QS ↔ W m (q0 :: q1 :: q2 :: some (.v x) :: l) S fun y S1 => P S1 y fun py => G g x py fun z => QS (.nx ((q0 :: q1 :: q2 :: some (.v x) :: l).set 3 (some (.v z)))) S1 := aug_at rfl
theorem aug4 : W (sAug 4 m g) (q0 :: q1 :: q2 :: q3 :: some (.v x) :: l) S QS ↔ W m (q0 :: q1 :: q2 :: q3 :: some (.v x) :: l) S fun y S1 => P S1 y fun py => G g x py fun z => QS (.nx ((q0 :: q1 :: q2 :: q3 :: some (.v x) :: l).set 4 (some (.v z)))) S1 := aug_at rfl
theorem aug5 : W (sAug 5 m g) (q0 :: q1 :: q2 :: q3 :: q4 :: some (.v x) :: l) S QS ↔ W m (q0 :: q1 :: q2 :: q3 :: q4 :: some (.v x) :: l) S fun y S1 => P S1 y fun py => G g x py fun z => QS (.nx ((q0 :: q1 :: q2 :: q3 :: q4 :: some (.v x) :: l).set 5 (some (.v z)))) S1 := aug_at rfl
theorem aug6 : W (sAug 6 m g) (q0 :: q1 :: q2 :: q3 :: q4 :: q5 :: some (.v x) :: l) S QS ↔ W m (q0 :: q1 :: q2 :: q3 :: q4 :: q5 :: some (.v x) :: l) S fun y S1 => P S1 y fun py => G g x py fun z => QS (.nx ((q0 :: q1 :: q2 :: q3 :: q4 :: q5 :: some (.v x) :: l).set 6 (some (.v z)))) S1 := aug_at rfl
theorem aug7 : W (sAug 7 m g) (q0 :: q1 :: q2 :: q3 :: q4 :: q5 :: q6 :: some (.v x) :: l) S QS ↔ W m (q0 :: q1 :: q2 :: q3 :: q4 :: q5 :: q6 :: some (.v x) :: l) S fun y S1 => P S1 y fun py => G g x py fun z => QS (.nx ((q0 :: q1 :: q2 :: q3 :: q4 :: q5 :: q6 :: some (.v x) :: l).set 7 (some (.v z)))) S1 := aug_at rfl
theorem aug8 : W (sAug 8 m g) (q0 :: q1 :: q2 :: q3 :: q4 :: q5 :: q6 :: q7 :: some (.v x) :: l) S QS ↔ W m (q0 :: q1 :: q2 :: q3 :: q4 :: q5 :: q6 :: q7 :: some (.v x) :: l) S fun y S1 => P S1 y fun py => G g x py fun z => QS (.nx ((q0 :: q1 :: q2 :: q3 :: q4 :: q5 :: q6 :: q7 :: some (.v x) :: l).set 8 (some (.v z)))) S1 := aug_at rfl
theorem aug9 : W (sAug 9 m g) (q0 :: q1 :: q2 :: q3 :: q4 :: q5 :: q6 :: q7 :: q8 :: some (.v x) :: l) S QS ↔ W m (q0 :: q1 :: q2 :: q3 :: q4 :: q5 :: q6 :: q7 :: q8 :: some (.v x) :: l) S fun y S1 => P S1 y fun py => G g x py fun z => QS (.nx ((q0 :: q1 :: q2 :: q3 :: q4 :: q5 :: q6 :: q7 :: q8 :: some (.v x) :: l).set 9 (some (.v z)))) S1 := aug_at rfl
theorem aug10 : W (sAug 10 m g) (q0 :: q1 :: q2 :: q3 :: q4 :: q5 :: q6 :: q7 :: q8 :: q9 :: some (.v x) :: l) S QS ↔ W m (q0 :: q1 :: q2 :: q3 :: q4 :: q5 :: q6 :: q7 :: q8 :: q9 :: some (.v x) :: l) S fun y S1 => P S1 y fun py => G g x py fun z => QS (.nx ((q0 :: q1 :: q2 :: q3 :: q4 :: q5 :: q6 :: q7 :: q8 :: q9 :: some (.v x) :: l).set 10 (some (.v z)))) S1 := aug_at rfl
theorem aug11 : W (sAug 11 m g) (q0 :: q1 :: q2 :: q3 :: q4 :: q5 :: q6 :: q7 :: q8 :: q9 :: q10 :: some (.v x) :: l) S QS ↔ W m (q0 :: q1 :: q2 :: q3 :: q4 :: q5 :: q6 :: q7 :: q8 :: q9 :: q10 :: some (.v x) :: l) S fun y S1 => P S1 y fun py => G g x py fun z => QS (.nx ((q0 :: q1 :: q2 :: q3 :: q4 :: q5 :: q6 :: q7 :: q8 :: q9 :: q10 :: some (.v x) :: l).set 11 (some (.v z)))) S1 := aug_at rfl
theorem aug12 : W (sAug 12 m g) (q0 :: q1 :: q2 :: q3 :: q4 :: q5 :: q6 :: q7 :: q8 :: q9 :: q10 :: q11 :: some (.v x) :: l) S QS ↔ W m (q0 :: q1 :: q2 :: q3 :: q4 :: q5 :: q6 :: q7 :: q8 :: q9 :: q10 :: q11 :: some (.v x) :: l) S fun y S1 => P S1 y fun py => G g x py fun z => QS (.nx ((q0 :: q1 :: q2 :: q3 :: q4 :: q5 :: q6 :: q7 :: q8 :: q9 :: q10 :: q11 :: some (.v x) :: l).set 12 (some (.v z)))) S1 := aug_at rfl
theorem aug13 : W (sAug 13 m g) (q0 :: q1 :: q2 :: q3 :: q4 :: q5 :: q6 :: q7 :: q8 :: q9 :: q10 :: q11 :: q12 :: some (.v x) :: l) S QS ↔ W m (q0 :: q1 :: q2 :: q3 :: q4 :: q5 :: q6 :: q7 :: q8 :: q9 :: q10 :: q11 :: q12 :: some (.v x) :: l) S fun y S1 => P S1 y fun py => G g x py fun z => QS (.nx ((q0 :: q1 :: q2 :: q3 :: q4 :: q5 :: q6 :: q7 :: q8 :: q9 :: q10 :: q11 :: q12 :: some (.v x) :: l).set 13 (some (.v z)))) S1 := aug_at rfl
theorem aug14 : W (sAug 14 m g) (q0 :: q1 :: q2 :: q3 :: q4 :: q5 :: q6 :: q7 :: q8 :: q9 :: q10 :: q11 :: q12 :: q13 :: some (.v x) :: l) S QS ↔ W m (q0 :: q1 :: q2 :: q3 :: q4 :: q5 :: q6 :: q7 :: q8 :: q9 :: q10 :: q11 :: q12 :: q13 :: some (.v x) :: l) S fun y S1 => P S1 y fun py => G g x py fun z => QS (.nx ((q0 :: q1 :: q2 :: q3 :: q4 :: q5 :: q6 :: q7 :: q8 :: q9 :: q10 :: q11 :: q12 :: q13 :: some (.v x) :: l).set 14 (some (.v z)))) S1 := aug_at rfl
theorem aug15 : W (sAug 15 m g) (q0 :: q1 :: q2 :: q3 :: q4 :: q5 :: q6 :: q7 :: q8 :: q9 :: q10 :: q11 :: q12 :: q13 :: q14 :: some (.v x) :: l) S QS ↔ W m (q0 :: q1 :: q2 :: q3 :: q4 :: q5 :: q6 :: q7 :: q8 :: q9 :: q10 :: q11 :: q12 :: q13 :: q14 :: some (.v x) :: l) S fun y S1 => P S1 y fun py => G g x py fun z => QS (.nx ((q0 :: q1 :: q2 :: q3 :: q4 :: q5 :: q6 :: q7 :: q8 :: q9 :: q10 :: q11 :: q12 :: q13 :: q14 :: some (.v x) :: l).set 15 (some (.v z)))) S1 := aug_at rfl
theorem aug16 : W (sAug 16 m g) (q0 :: q1 :: q2 :: q3 :: q4 :: q5 :: q6 :: q7 :: q8 :: q9 :: q10 :: q11 :: q12 :: q13 :: q14 :: q15 :: some (.v x) :: l) S QS ↔ W m (q0 :: q1 :: q2 :: q3 :: q4 :: q5 :: q6 :: q7 :: q8 :: q9 :: q10 :: q11 :: q12 :: q13 :: q14 :: q15 :: some (.v x) :: l) S fun y S1 => P S1 y fun py => G g x py fun z => QS (.nx ((q0 :: q1 :: q2 :: q3 :: q4 :: q5 :: q6 :: q7 :: q8 :: q9 :: q10 :: q11 :: q12 :: q13 :: q14 :: q15 :: some (.v x) :: l).set 16 (some (.v z)))) S1 := aug_at rfl
theorem aug17 : W (sAug 17 m g) (q0 :: q1 :: q2 :: q3 :: q4 :: q5 :: q6 :: q7 :: q8 :: q9 :: q10 :: q11 :: q12 :: q13 :: q14 :: q15 :: q16 :: some (.v x) :: l) S QS ↔ W m (q0 :: q1 :: q2 :: q3 :: q4 :: q5 :: q6 :: q7 :: q8 :: q9 :: q10 :: q11 :: q12 :: q13 :: q14 :: q15 :: q16 :: some (.v x) :: l) S fun y S1 => P S1 y fun py => G g x py fun z => QS (.nx ((q0 :: q1 :: q2 :: q3 :: q4 :: q5 :: q6 :: q7 :: q8 :: q9 :: q10 :: q11 :: q12 :: q13 :: q14 :: q15 :: q16 :: some (.v x) :: l).set 17 (some (.v z)))) S1 := aug_at rfl
end
end Dn

/-! Dn 19: data that equals itself; what may be shown; where an item stands. -/
namespace Dn
open PySem PySem.Spec PyProof.Rows L2
section
variable {xs : List PV} {x y : PV} {n : Nat} {S : Sto}
theorem eqv_self (h : plainP x = true) : eqvP x x = true := SeqAt.eqv_refl_plain _ (plain_toD x h)
theorem g_eqSame {Q : PV → Prop} (h : dataOk x = true) : G eqP x x Q ↔ Q (.bl true) := by
  refine (G_of (z := .bl (eqvP x x)) ?_).trans (by rw [eqv_self (dataOk_of h).1])
  unfold eqP
  rw [h]
  rfl
theorem g_neSame {Q : PV → Prop} (h : dataOk x = true) : G neP x x Q ↔ Q (.bl false) := by
  refine (G_of (z := .bl (!eqvP x x)) ?_).trans (by rw [eqv_self (dataOk_of h).1]; rfl)
  unfold neP
  rw [h]
  rfl
theorem plainL_of : ∀ {xs : List PV}, (∀ x ∈ xs, plainP x = true) → plainL xs = true
  | [], _ => rfl
  | x :: xs, h => by
    unfold plainL
    rw [h x List.mem_cons_self, plainL_of fun y hy => h y (List.mem_cons_of_mem _ hy)]
    rfl
theorem depL_of : ∀ {xs : List PV}, (∀ x ∈ xs, dep x ≤ n) → depL xs ≤ n
  | [], _ => Nat.zero_le _
  | x :: xs, h => Nat.max_le.mpr ⟨h x List.mem_cons_self, depL_of fun y hy => h y (List.mem_cons_of_mem _ hy)⟩
theorem layL_of : ∀ {xs : List PV}, (∀ x ∈ xs, (toD x).canLay0 = true) → PyData.canLayAll0 (toDL xs) = true
  | [], _ => rfl
  | x :: xs, h => by
    unfold toDL PyData.canLayAll0
    rw [h x List.mem_cons_self, layL_of fun y hy => h y (List.mem_cons_of_mem _ hy)]
    rfl
theorem showL_of : ∀ {xs : List PV}, (∀ x ∈ xs, showP x = true) → showL xs = true
  | [], _ => rfl
  | x :: xs, h => by
    unfold showL
    rw [h x List.mem_cons_self, showL_of fun y hy => h y (List.mem_cons_of_mem _ hy)]
    rfl
theorem bulkL_of (n : Nat) : ∀ {xs : List PV}, (∀ x ∈ xs, bulkP x ≤ n) → bulkL xs ≤ (n + 1) * xs.length
  | [], _ => Nat.zero_le _
  | x :: xs, h => by
    unfold bulkL
    have h1 := h x List.mem_cons_self
    have h2 := bulkL_of n (xs := xs) fun y hy => h y (List.mem_cons_of_mem _ hy)
    rw [List.length_cons, Nat.mul_succ]
    omega
theorem findP_mem : ∀ {xs : List PV}, x ∈ xs → plainP x = true → ∃ i, findP x xs = some i ∧ i < xs.length
  | [], h, _ => by simp at h
  | y :: ys, h, hp => by
    unfold findP
    by_cases e : eqvP y x = true
    · exact ⟨0, if_pos e, Nat.succ_pos _⟩
    · rw [if_neg e]
      rcases List.mem_cons.mp h with rfl | h
      · exact absurd (eqv_self hp) e
      · obtain ⟨i, h1, h2⟩ := findP_mem h hp
        exact ⟨i + 1, by rw [h1]; rfl, Nat.succ_lt_succ h2⟩
theorem idx_v {Q : RV → Sto → Prop} (hs : SeqAt.shaped (toD (.lst xs)) = true) (hy : SeqAt.shaped (toD y) = true) (hp : plainP y = true) (hm : y ∈ xs) (k : ∀ i : Nat, i < xs.length → Q (.v (.int i)) S) : MW (cIdx (.v (.lst xs)) [.v y] S) Q := by
  obtain ⟨i, h1, h2⟩ := findP_mem hm hp
  refine (mw_of (y := .v (.int i)) (S' := S) ?_).mpr (k i h2)
  show (if (SeqAt.shaped (toD (.lst xs)) && SeqAt.shaped (toD y)) = true then (findP y xs).map fun i => (RV.v (.int (i : Nat)), S) else none) = _
  rw [hs, hy, h1]
  rfl
end
end Dn

/-! Dn 20: dicts with whole numbers for keys, as lists of pairs. -/
namespace Dn
open PySem PySem.Spec PyProof.Rows L2
section
variable {α : Type} {f : α → PV} {l : List (Int × α)} {i : Int} {S : Sto} {x : PV}
def kI (l : List (Int × α)) : List PV := l.map fun p => PV.int p.1
def vI (f : α → PV) (l : List (Int × α)) : List PV := l.map fun p => f p.2
def dI (f : α → PV) (l : List (Int × α)) : PV := .dct false (kI l) (vI f l)
def oI (f : α → PV) (l : List (Int × α)) : SO := .dct false (kI l) (vI f l)
def atK (i : Int) : List (Int × α) → Option α
  | [] => none
  | p :: l => if p.1 = i then some p.2 else atK i l
theorem look_i : lookP (.int i) (kI l) (vI f l) = (atK i l).map f := by
  induction l with
  | nil => rfl
  | cons p l ih =>
    show (if decide (p.1 = i) = true then some (f p.2) else lookP (.int i) (kI l) (vI f l)) = Option.map f (if p.1 = i then some p.2 else atK i l)
    rw [ih]
    by_cases h : p.1 = i
    · rw [if_pos (decide_eq_true h), if_pos h]
      rfl
    · rw [if_neg (by rw [decide_eq_false h]; exact Bool.false_ne_true), if_neg h]
theorem put_i {y : α} (h : ∀ p ∈ l, p.1 ≠ i) : putP (.int i) (f y) (kI l) (vI f l) = (kI (l ++ [(i, y)]), vI f (l ++ [(i, y)])) := by
  have e : hasP (.int i) (kI l) = false := by
    unfold hasP
    rw [List.any_eq_false]
    intro z hz
    obtain ⟨p, hp, rfl⟩ := List.mem_map.mp hz
    show ¬ decide (p.1 = i) = true
    rw [decide_eq_true_eq]
    exact h p hp
  unfold putP
  rw [e, if_neg Bool.false_ne_true]
  unfold kI vI
  rw [List.map_append, List.map_append]
  rfl
theorem atK_mem {y : α} (h : atK i l = some y) : (i, y) ∈ l := by
  induction l with
  | nil => cases h
  | cons p l ih =>
    unfold atK at h
    by_cases e : p.1 = i
    · rw [if_pos e] at h
      cases h
      cases p
      cases e
      exact List.mem_cons_self
    · rw [if_neg e] at h
      exact List.mem_cons_of_mem _ (ih h)
theorem atK_some (h : ∃ p ∈ l, p.1 = i) : ∃ y, atK i l = some y := by
  induction l with
  | nil =>
    obtain ⟨p, hp, _⟩ := h
    cases hp
  | cons p l ih =>
    unfold atK
    by_cases e : p.1 = i
    · exact ⟨_, if_pos e⟩
    · rw [if_neg e]
      obtain ⟨q, hq, e2⟩ := h
      rcases List.mem_cons.mp hq with rfl | hq
      · exact absurd e2 e
      · exact ih ⟨q, hq, e2⟩
theorem g_inDI {Q : PV → Prop} : G inP (.int i) (dI f l) Q ↔ Q (.bl (atK i l).isSome) := by
  refine (G_of (z := .bl (lookP (.int i) (kI l) (vI f l)).isSome) ?_).trans (by rw [look_i]; cases atK i l <;> rfl)
  rfl
theorem g_ixDI {Q : PV → Prop} {y : α} (h : atK i l = some y) : G ixP (dI f l) (.int i) Q ↔ Q (f y) := by
  unfold dI
  rw [g_ixD, look_i, h]
  simp [kindOk]
theorem set_i {Q : Sto → Prop} {n : Nat} {y : α} (hS : S[n]? = some (oI f l)) (h : ∀ p ∈ l, p.1 ≠ i) (hz : l.length + 1 ≤ 1000000) (q : Q (S.set n (oI f (l ++ [(i, y)])))) : SW (wSet (.ref n) (.v (.int i)) (.v (f y)) S) Q := by
  refine (dset_at hS rfl (by unfold vI; rw [List.length_map]; exact hz)).mpr ?_
  rw [put_i h]
  exact q
end
end Dn

namespace K61
open PySem PySem.Spec PyProof.Rows L2 Dn
/-! ### what each def of the text means -/
/- reduced(n, d); slots: 0 n, 1 d, 2 common -/
noncomputable def d_reduced_1 : SM := sCons (sRet (eTup (aCons (e2 fdivP (eVar 0) (eVar 2)) (aCons (e2 fdivP (eVar 1) (eVar 2)) (aNil))))) (sNil)
noncomputable def m_reduced : SM := sCons (sAsg (eIf (tB (e2 gtP (eVar 1) (eC (.int 0)))) (eB (bP gcdG) (aCons (eVar 0) (aCons (eVar 1) (aNil)))) (e1 negP (eB (bP gcdG) (aCons (eVar 0) (aCons (eVar 1) (aNil)))))) (gNm 2)) (d_reduced_1)
noncomputable def c_reduced : CM := fnSem 3 2 false m_reduced
/- compared(one, other); slots: 0 one, 1 other, 2 mine, 3 its -/
noncomputable def d_compared_1 : SM := sCons (sRet (e2 subP (eB (bP intG) (aCons (e2 gtP (eVar 2) (eVar 3)) (aNil))) (eB (bP intG) (aCons (e2 ltP (eVar 2) (eVar 3)) (aNil))))) (sNil)
noncomputable def m_compared : SM := sCons (sPar [2, 3] (aCons (e2 mulP (e2 ixP (eVar 0) (eC (.int 0))) (e2 ixP (eVar 1) (eC (.int 1)))) (aCons (e2 mulP (e2 ixP (eVar 1) (eC (.int 0))) (e2 ixP (eVar 0) (eC (.int 1)))) (aNil)))) (d_compared_1)
noncomputable def c_compared : CM := fnSem 4 2 false m_compared
/- lag_of(bounds); slots: 0 bounds -/
noncomputable def m_lag_of : SM := sCons (sRet (e2 addP (e2 ixP (eVar 0) (eC (.int 4))) (e2 mulP (eC (.int 2)) (e2 ixP (eVar 0) (eC (.int 3)))))) (sNil)
noncomputable def c_lag_of : CM := fnSem 1 1 false m_lag_of
/- carriers_of(show); slots: 0 show -/
noncomputable def m_carriers_of : SM := sCons (sRet (eRl false rgl1 (aCons (eB (bP lenG) (aCons (e2 ixP (eVar 0) (eC (.int 1))) (aNil))) aNil))) (sNil)
noncomputable def c_carriers_of : CM := fnSem 1 1 false m_carriers_of
/- _law_bag(_law_script); slots: 0 _law_script, 1 _law_cell -/
noncomputable def m__law_bag : SM := sCons (sRet (eLstM (aCons (eC (.int 0)) (aCons (eC (.int 1234567891)) (aCons (eC (.int 0)) (aCons (eLc (iSq (eSl (eVar 0) (oNo) (oSome (eC (.int 63))))) [1] (gNm 1) (tYe) (eB (bP absG) (aCons (eVar 1) (aNil)))) (aNil))))))) (sNil)
noncomputable def c__law_bag : CM := fnSem 2 1 true m__law_bag
/- _law_take(_law_bag_here, _law_many); slots: 0 _law_bag_here, 1 _law_many, 2 _law_cell, 3 _law_stirred, 4 _law_value, 5 _law_begin, 6 _law_second -/
noncomputable def d__law_take_4 : SM := sCons (sRet (e2 modP (eB (bP intG) (aCons (e2 fdivP (eVar 6) (eC (.int 7))) (aNil))) (eVar 1))) (sNil)
noncomputable def d__law_take_3 : SM := sCons (sAsg (e2 modP (eB (bP intG) (aCons (e2 mulP (e2 modP (eB (bP intG) (aCons (e2 mulP (eVar 5) (eVar 5)) (aNil))) (eC (.int 998244353))) (eC (.int 30011))) (aNil))) (eC (.int 998244353))) (gNm 6)) (d__law_take_4)
noncomputable def d__law_take_2 : SM := sCons (sAsg (e2 modP (eB (bP intG) (aCons (e2 mulP (e2 addP (e2 ixP (eVar 0) (eC (.int 1))) (eC (.int 1))) (eC (.int 39373))) (aNil))) (eC (.int 1000000007))) (gNm 5)) (d__law_take_3)
noncomputable def d__law_take_1 : SM := sCons (sIf (tB (e2 gtP (e2 ixP (eVar 0) (eC (.int 0))) (eC (.int 0)))) (sCons (sAsg (e2 modP (eB (bP intG) (aCons (e2 ixP (eVar 0) (eC (.int 0))) (aNil))) (eVar 1)) (gNm 4)) (sCons (sAsg (e2 fdivP (eB (bP intG) (aCons (e2 ixP (eVar 0) (eC (.int 0))) (aNil))) (eVar 1)) (gSb (eVar 0) (eC (.int 0)) wSet)) (sCons (sRet (eVar 4)) (sNil)))) (sNil)) (d__law_take_2)
noncomputable def m__law_take : SM := sCons (sIf (tB (e2 eqP (e2 ixP (eVar 0) (eC (.int 0))) (eC (.int 0)))) (sCons (sAsg (e2 ixP (e2 addP (eSl (e2 ixP (eVar 0) (eC (.int 3))) (oSome (e2 ixP (eVar 0) (eC (.int 2)))) (oNo)) (eLst (aCons (eC (.int 0)) (aNil)))) (eC (.int 0))) (gNm 2)) (sCons (sAugS (eVar 0) (eC (.int 2)) (eC (.int 1)) gIx iaddP wSet) (sCons (sIf (tB (e2 geP (eVar 2) (e2 powP (eC (.int 10)) (eC (.int 18))))) (sCons (sAsg (eVar 2) (gSb (eVar 0) (eC (.int 0)) wSet)) (sNil)) (sNil)) (sCons (sAsg (e2 addP (e2 addP (e2 mulP (e2 ixP (eVar 0) (eC (.int 1))) (eC (.int 48271))) (e2 modP (eB (bP intG) (aCons (eVar 2) (aNil))) (eC (.int 2147483647)))) (e2 mulP (eC (.int 7919)) (e2 ixP (eVar 0) (eC (.int 2))))) (gNm 3)) (sCons (sAsg (e2 modP (eB (bP intG) (aCons (eVar 3) (aNil))) (eC (.int 2147483647))) (gSb (eVar 0) (eC (.int 1)) wSet)) (sNil)))))) (sNil)) (d__law_take_1)
noncomputable def c__law_take : CM := fnSem 7 2 false m__law_take
/- _law_alike(_law_found, _law_due); slots: 0 _law_found, 1 _law_due -/
noncomputable def m__law_alike : SM := sCons (sRet (eAn (e2 eqP (eVar 0) (eVar 1)) (e2 eqP (eB (bP repG) (aCons (eVar 0) (aNil))) (eB (bP repG) (aCons (eVar 1) (aNil)))))) (sNil)
noncomputable def c__law_alike : CM := fnSem 2 2 false m__law_alike
/- _law_over(_law_n, _law_d); slots: 0 _law_n, 1 _law_d, 2 _law_one, 3 _law_other -/
noncomputable def b__law_over_1 : SM := sCons (sPar [2, 3] (aCons (eVar 3) (aCons (e2 modP (eB (bP intG) (aCons (eVar 2) (aNil))) (eVar 3)) (aNil)))) (sNil)
noncomputable def d__law_over_3 : SM := sCons (sRet (eTup (aCons (e2 fdivP (eB (bP intG) (aCons (eVar 0) (aNil))) (eVar 2)) (aCons (e2 fdivP (eB (bP intG) (aCons (eVar 1) (aNil))) (eVar 2)) (aNil))))) (sNil)
noncomputable def d__law_over_2 : SM := sCons (sAsg (eIf (tB (e2 gtP (eVar 1) (eC (.int 0)))) (eVar 2) (e1 negP (eVar 2))) (gNm 2)) (d__law_over_3)
noncomputable def d__law_over_1 : SM := sCons (sWhile (tB (e2 gtP (eVar 3) (eC (.int 0)))) (b__law_over_1)) (d__law_over_2)
noncomputable def m__law_over : SM := sCons (sPar [2, 3] (aCons (eB (bP absG) (aCons (eVar 0) (aNil))) (aCons (eB (bP absG) (aCons (eVar 1) (aNil))) (aNil)))) (d__law_over_1)
noncomputable def c__law_over : CM := fnSem 4 2 false m__law_over
/- _law_is_below(_law_x, _law_y); slots: 0 _law_x, 1 _law_y -/
noncomputable def m__law_is_below : SM := sCons (sRet (e2 ltP (e2 mulP (e2 ixP (eVar 0) (eC (.int 0))) (e2 ixP (eVar 1) (eC (.int 1)))) (e2 mulP (e2 ixP (eVar 1) (eC (.int 0))) (e2 ixP (eVar 0) (eC (.int 1)))))) (sNil)
noncomputable def c__law_is_below : CM := fnSem 2 2 false m__law_is_below
/- _law_reach(_law_bounds); slots: 0 _law_bounds -/
noncomputable def m__law_reach : SM := sCons (sRet (e2 addP (e2 ixP (eVar 0) (eC (.int 1))) (e2 mulP (eC (.int 2)) (e2 ixP (eVar 0) (eC (.int 2)))))) (sNil)
noncomputable def c__law_reach : CM := fnSem 1 1 false m__law_reach
/- _law_lag(_law_bounds); slots: 0 _law_bounds -/
noncomputable def m__law_lag : SM := sCons (sRet (e2 addP (e2 ixP (eVar 0) (eC (.int 4))) (e2 mulP (eC (.int 2)) (e2 ixP (eVar 0) (eC (.int 3)))))) (sNil)
noncomputable def c__law_lag : CM := fnSem 1 1 false m__law_lag
/- _law_rows(_law_picture_here, _law_spacing); slots: 0 _law_picture_here, 1 _law_spacing, 2 _law_found, 3 _law_lamp, 4 _law_taken, 5 _law_other, 6 _law_row -/
noncomputable def b__law_rows_1_1 : SM := sCons (sDrop (eMt cApp (eVar 2) (aCons (e2 ixP (eLc (iRg rng1 (aCons (e2 addP (eB (bP lenG) (aCons (eVar 0) (aNil))) (eC (.int 1))) (aNil))) [6] (gNm 6) (tB (e2 ninP (eVar 6) (eVar 4))) (eVar 6)) (eC (.int 0))) (aNil)))) (sNil)
noncomputable def b__law_rows_1 : SM := sCons (sAsg (eLc (iZp (aCons (eVar 0) (aCons (eVar 2) (aNil)))) [5, 6] (gTp 2 (gsCons (gNm 5) (gsCons (gNm 6) (gsNil)))) (tB (e2 ltP (eB (bP absG) (aCons (e2 subP (e2 ixP (eVar 5) (eC (.int 0))) (e2 ixP (eVar 3) (eC (.int 0)))) (aNil))) (eVar 1))) (eVar 6)) (gNm 4)) (b__law_rows_1_1)
noncomputable def d__law_rows_2 : SM := sCons (sRet (eVar 2)) (sNil)
noncomputable def d__law_rows_1 : SM := sCons (sFor (iSq (eVar 0)) (gNm 3) (b__law_rows_1)) (d__law_rows_2)
noncomputable def m__law_rows : SM := sCons (sAsg (eLstM (aNil)) (gNm 2)) (d__law_rows_1)
noncomputable def c__law_rows : CM := fnSem 7 2 false m__law_rows
/- added(one, other); slots: 0 one, 1 other -/
noncomputable def m_added : SM := sCons (sRet (eCall 2 c_reduced (aCons (e2 addP (e2 mulP (e2 ixP (eVar 0) (eC (.int 0))) (e2 ixP (eVar 1) (eC (.int 1)))) (e2 mulP (e2 ixP (eVar 1) (eC (.int 0))) (e2 ixP (eVar 0) (eC (.int 1))))) (aCons (e2 mulP (e2 ixP (eVar 0) (eC (.int 1))) (e2 ixP (eVar 1) (eC (.int 1)))) (aNil))))) (sNil)
noncomputable def c_added : CM := fnSem 2 2 false m_added
/- least_of(fractions); slots: 0 fractions, 1 found, 2 one -/
noncomputable def b_least_of_1 : SM := sCons (sAsg (eIf (tB (e2 ltP (eCall 2 c_compared (aCons (eVar 2) (aCons (eVar 1) (aNil)))) (eC (.int 0)))) (eVar 2) (eVar 1)) (gNm 1)) (sNil)
noncomputable def d_least_of_2 : SM := sCons (sRet (eVar 1)) (sNil)
noncomputable def d_least_of_1 : SM := sCons (sFor (iSq (eVar 0)) (gNm 2) (b_least_of_1)) (d_least_of_2)
noncomputable def m_least_of : SM := sCons (sAsg (e2 ixP (eVar 0) (eC (.int 0))) (gNm 1)) (d_least_of_1)
noncomputable def c_least_of : CM := fnSem 3 1 false m_least_of
/- hold_needed(bounds); slots: 0 bounds -/
noncomputable def m_hold_needed : SM := sCons (sRet (e2 addP (e2 addP (e2 addP (eCall 1 c_lag_of (aCons (eVar 0) (aNil))) (e2 ixP (eVar 0) (eC (.int 3)))) (e2 mulP (eC (.int 2)) (e2 ixP (eVar 0) (eC (.int 6))))) (e2 ixP (eVar 0) (eC (.int 7))))) (sNil)
noncomputable def c_hold_needed : CM := fnSem 1 1 false m_hold_needed
/- _law_some(_law_bag_here, _law_things); slots: 0 _law_bag_here, 1 _law_things -/
noncomputable def m__law_some : SM := sCons (sRet (e2 ixP (eVar 1) (eCall 2 c__law_take (aCons (eVar 0) (aCons (eB (bP lenG) (aCons (eVar 1) (aNil))) (aNil)))))) (sNil)
noncomputable def c__law_some : CM := fnSem 2 2 false m__law_some
/- _law_added(_law_x, _law_y); slots: 0 _law_x, 1 _law_y -/
noncomputable def m__law_added : SM := sCons (sRet (eCall 2 c__law_over (aCons (e2 addP (e2 mulP (e2 ixP (eVar 0) (eC (.int 0))) (e2 ixP (eVar 1) (eC (.int 1)))) (e2 mulP (e2 ixP (eVar 1) (eC (.int 0))) (e2 ixP (eVar 0) (eC (.int 1))))) (aCons (e2 mulP (e2 ixP (eVar 0) (eC (.int 1))) (e2 ixP (eVar 1) (eC (.int 1)))) (aNil))))) (sNil)
noncomputable def c__law_added : CM := fnSem 2 2 false m__law_added
/- _law_is_enough(_law_bounds, _law_ticks); slots: 0 _law_bounds, 1 _law_ticks, 2 _law_spacing, 3 _law_reach_here, 4 _law_way, 5 _law_lag_here, 6 _law_left, 7 _law_right -/
noncomputable def d__law_is_enough_5 : SM := sCons (sRet (eAn (e2 geP (eVar 6) (eC (.int 0))) (e2 geP (e2 mulP (eVar 6) (eVar 6)) (eVar 7)))) (sNil)
noncomputable def d__law_is_enough_4 : SM := sCons (sAsg (e2 mulP (e2 mulP (e2 mulP (e2 mulP (e2 mulP (e2 mulP (e2 mulP (e2 mulP (eC (.int 8)) (eVar 2)) (eVar 2)) (eVar 3)) (eVar 3)) (eVar 1)) (eVar 1)) (eVar 1)) (eVar 1)) (gNm 7)) (d__law_is_enough_5)
noncomputable def d__law_is_enough_3 : SM := sCons (sAsg (e2 subP (eVar 6) (e2 mulP (e2 mulP (eVar 5) (eVar 5)) (e2 subP (e2 mulP (e2 mulP (eC (.int 2)) (eVar 4)) (eVar 4)) (e2 mulP (eVar 2) (eVar 2))))) (gNm 6)) (d__law_is_enough_4)
noncomputable def d__law_is_enough_2 : SM := sCons (sAsg (e2 mulP (e2 mulP (e2 addP (e2 mulP (eVar 2) (eVar 2)) (e2 mulP (e2 mulP (eC (.int 2)) (eVar 3)) (eVar 3))) (eVar 1)) (eVar 1)) (gNm 6)) (d__law_is_enough_3)
noncomputable def d__law_is_enough_1 : SM := sCons (sIf (tB (e2 ltP (e2 mulP (eVar 2) (eVar 2)) (e2 mulP (e2 mulP (eC (.int 2)) (eVar 3)) (eVar 3)))) (sCons (sRet (eC (.bl false))) (sNil)) (sNil)) (d__law_is_enough_2)
noncomputable def m__law_is_enough : SM := sCons (sPar [2, 3, 4, 5] (aCons (e2 ixP (eVar 0) (eC (.int 0))) (aCons (eCall 1 c__law_reach (aCons (eVar 0) (aNil))) (aCons (e2 ixP (eVar 0) (eC (.int 5))) (aCons (eCall 1 c__law_lag (aCons (eVar 0) (aNil))) (aNil)))))) (d__law_is_enough_1)
noncomputable def c__law_is_enough : CM := fnSem 8 2 false m__law_is_enough
/- _law_needed(_law_bounds); slots: 0 _law_bounds -/
noncomputable def m__law_needed : SM := sCons (sRet (e2 addP (e2 addP (e2 addP (eCall 1 c__law_lag (aCons (eVar 0) (aNil))) (e2 ixP (eVar 0) (eC (.int 3)))) (e2 mulP (eC (.int 2)) (e2 ixP (eVar 0) (eC (.int 6))))) (e2 ixP (eVar 0) (eC (.int 7))))) (sNil)
noncomputable def c__law_needed : CM := fnSem 1 1 false m__law_needed
/- timeline(show); slots: 0 show, 1 bounds, 2 pads, 3 charge, 4 scenes, 5 opens, 6 leaves, 7 found, 8 ticks, 9 hold, 10 picture, 11 arrives -/
noncomputable def b_timeline_1_2 : SM := sCons (sPar [5, 6] (aCons (eVar 11) (aCons (e2 addP (eVar 11) (eVar 9)) (aNil)))) (sNil)
noncomputable def b_timeline_1_1 : SM := sCons (sDrop (eMt cApp (eVar 7) (aCons (eTup (aCons (eVar 5) (aCons (eVar 6) (aCons (eVar 11) (aCons (e2 addP (eVar 11) (eVar 9)) (aNil)))))) (aNil)))) (b_timeline_1_2)
noncomputable def b_timeline_1 : SM := sCons (sAsg (e2 addP (eVar 6) (eVar 8)) (gNm 11)) (b_timeline_1_1)
noncomputable def d_timeline_3 : SM := sCons (sRet (eB (bP tupG) (aCons (eVar 7) (aNil)))) (sNil)
noncomputable def d_timeline_2 : SM := sCons (sFor (iSq (eVar 4)) (gTp 3 (gsCons (gNm 8) (gsCons (gNm 9) (gsCons (gNm 10) (gsNil))))) (b_timeline_1)) (d_timeline_3)
noncomputable def d_timeline_1 : SM := sCons (sPar [5, 6, 7] (aCons (eC (.int 0)) (aCons (eCall 1 c_hold_needed (aCons (eVar 1) (aNil))) (aCons (eLstM (aNil)) (aNil))))) (d_timeline_2)
noncomputable def m_timeline : SM := sCons (sAsg (eVar 0) (gTp 4 (gsCons (gNm 1) (gsCons (gNm 2) (gsCons (gNm 3) (gsCons (gNm 4) (gsNil))))))) (d_timeline_1)
noncomputable def c_timeline : CM := fnSem 12 1 false m_timeline
/- _law_first_enough(_law_bounds, _law_most); slots: 0 _law_bounds, 1 _law_most, 2 _law_low, 3 _law_high, 4 _law_turn, 5 _law_middle -/
noncomputable def b__law_first_enough_1_1 : SM := sCons (sIf (tAn (tB (e2 ltP (eVar 2) (eVar 3))) (tB (eCall 2 c__law_is_enough (aCons (eVar 0) (aCons (eVar 5) (aNil)))))) (sCons (sAsg (eVar 5) (gNm 3)) (sNil)) (sCons (sIf (tB (e2 ltP (eVar 2) (eVar 3))) (sCons (sAsg (e2 addP (eVar 5) (eC (.int 1))) (gNm 2)) (sNil)) (sNil)) (sNil))) (sNil)
noncomputable def b__law_first_enough_1 : SM := sCons (sAsg (e2 fdivP (e2 addP (eVar 2) (eVar 3)) (eC (.int 2))) (gNm 5)) (b__law_first_enough_1_1)
noncomputable def d__law_first_enough_3 : SM := sCons (sRet (eVar 2)) (sNil)
noncomputable def d__law_first_enough_2 : SM := sCons (sFor (iRg rng1 (aCons (eC (.int 64)) (aNil))) (gNm 4) (b__law_first_enough_1)) (d__law_first_enough_3)
noncomputable def d__law_first_enough_1 : SM := sCons (sIf (tOr (tB (e2 gtP (eVar 2) (eVar 3))) (tN (tB (eCall 2 c__law_is_enough (aCons (eVar 0) (aCons (eVar 3) (aNil))))))) (sCons (sRet (eC .non)) (sNil)) (sNil)) (d__law_first_enough_2)
noncomputable def m__law_first_enough : SM := sCons (sPar [2, 3] (aCons (eB (bP maxG) (aCons (eC (.int 1)) (aCons (eCall 1 c__law_lag (aCons (eVar 0) (aNil))) (aNil)))) (aCons (eVar 1) (aNil)))) (d__law_first_enough_1)
noncomputable def c__law_first_enough : CM := fnSem 6 2 false m__law_first_enough
/- _law_times(_law_show_here); slots: 0 _law_show_here, 1 _law_found, 2 _law_opens, 3 _law_leaves, 4 _law_ticks, 5 _law_hold, 6 _law_picture_here -/
noncomputable def b__law_times_1_1 : SM := sCons (sPar [2, 3] (aCons (e2 addP (eVar 3) (eVar 4)) (aCons (e2 addP (e2 addP (eVar 3) (eVar 4)) (eVar 5)) (aNil)))) (sNil)
noncomputable def b__law_times_1 : SM := sCons (sDrop (eMt cApp (eVar 1) (aCons (eTup (aCons (eVar 2) (aCons (eVar 3) (aCons (e2 addP (eVar 3) (eVar 4)) (aCons (e2 addP (e2 addP (eVar 3) (eVar 4)) (eVar 5)) (aNil)))))) (aNil)))) (b__law_times_1_1)
noncomputable def d__law_times_2 : SM := sCons (sRet (eVar 1)) (sNil)
noncomputable def d__law_times_1 : SM := sCons (sFor (iSq (e2 ixP (eVar 0) (eC (.int 3)))) (gTp 3 (gsCons (gNm 4) (gsCons (gNm 5) (gsCons (gNm 6) (gsNil))))) (b__law_times_1)) (d__law_times_2)
noncomputable def m__law_times : SM := sCons (sPar [1, 2, 3] (aCons (eLstM (aNil)) (aCons (eC (.int 0)) (aCons (eCall 1 c__law_needed (aCons (e2 ixP (eVar 0) (eC (.int 0))) (aNil))) (aNil))))) (d__law_times_1)
noncomputable def c__law_times : CM := fnSem 7 1 false m__law_times
/- _law_picture(_law_bag_here, _law_spacing, _law_deep, _law_most); slots: 0 _law_bag_here, 1 _law_spacing, 2 _law_deep, 3 _law_most, 4 _law_lamps, 5 _law_turn, 6 _law_x, 7 _law_z, 8 _law_shades, 9 _law_picture_here, 10 _law_rows_here, 11 _law_key, 12 _law_lamp, 13 _law_row -/
noncomputable def b__law_picture_1_3 : SM := sCons (sIf (tB (e2 gtP (eCall 2 c__law_take (aCons (eVar 0) (aCons (eC (.int 5)) (aNil)))) (eC (.int 0)))) (sCons (sAsg (eTup (aCons (eVar 6) (aCons (eVar 7) (aCons (eVar 8) (aCons (eCall 2 c__law_take (aCons (eVar 0) (aCons (eC (.int 4)) (aNil)))) (aNil)))))) (gSb (eVar 4) (eTup (aCons (eVar 6) (aCons (eVar 7) (aNil)))) wSet)) (sNil)) (sNil)) (sNil)
noncomputable def b__law_picture_1_2 : SM := sCons (sAsg (eCall 2 c__law_some (aCons (eVar 0) (aCons (eLst (aCons (eTup (aCons (eC (.str ("red" : Str))) (aNil))) (aCons (eTup (aCons (eC (.str ("red" : Str))) (aCons (eC (.str ("blue" : Str))) (aNil)))) (aCons (eTup (aCons (eC (.str ("gold" : Str))) (aCons (eC (.str ("gold" : Str))) (aNil)))) (aCons (eTup (aCons (eC (.str ("blue" : Str))) (aCons (eC (.str ("red" : Str))) (aCons (eC (.str ("dark" : Str))) (aNil))))) (aNil)))))) (aNil)))) (gNm 8)) (b__law_picture_1_3)
noncomputable def b__law_picture_1_1 : SM := sCons (sAsg (eCall 2 c__law_take (aCons (eVar 0) (aCons (eC (.int 4)) (aNil)))) (gNm 7)) (b__law_picture_1_2)
noncomputable def b__law_picture_1 : SM := sCons (sAsg (eCall 2 c__law_some (aCons (eVar 0) (aCons (eLst (aCons (eC (.int 0)) (aCons (eVar 1) (aCons (e2 mulP (eC (.int 2)) (eVar 1)) (aCons (eCall 2 c__law_take (aCons (eVar 0) (aCons (e2 addP (e2 mulP (eC (.int 3)) (eVar 1)) (eC (.int 1))) (aNil)))) (aCons (e2 subP (eVar 1) (eC (.int 1))) (aNil))))))) (aNil)))) (gNm 6)) (b__law_picture_1_1)
noncomputable def d__law_picture_4 : SM := sCons (sRet (eB (bP tupG) (aCons (eLc (iZp (aCons (eVar 9) (aCons (eVar 10) (aNil)))) [12, 13] (gTp 2 (gsCons (gNm 12) (gsCons (gNm 13) (gsNil)))) (tB (e2 ltP (eVar 13) (eVar 2))) (eVar 12)) (aNil)))) (sNil)
noncomputable def d__law_picture_3 : SM := sCons (sAsg (eCall 2 c__law_rows (aCons (eVar 9) (aCons (eVar 1) (aNil)))) (gNm 10)) (d__law_picture_4)
noncomputable def d__law_picture_2 : SM := sCons (sAsg (eLc (iSq (eB (bP sortG) (aCons (eVar 4) (aNil)))) [11] (gNm 11) (tYe) (e2 ixP (eVar 4) (eVar 11))) (gNm 9)) (d__law_picture_3)
noncomputable def d__law_picture_1 : SM := sCons (sFor (iRg rng1 (aCons (eVar 3) (aNil))) (gNm 5) (b__law_picture_1)) (d__law_picture_2)
noncomputable def m__law_picture : SM := sCons (sAsg (eDctM true) (gNm 4)) (d__law_picture_1)
noncomputable def c__law_picture : CM := fnSem 14 4 false m__law_picture
/- _law_show_bounds(_law_bag_here); slots: 0 _law_bag_here, 1 _law_spacing, 2 _law_wind_here, 3 _law_top, 4 _law_near, 5 _law_clock, 6 _law_fall_here, 7 _law_way -/
noncomputable def d__law_show_bounds_6 : SM := sCons (sRet (eTup (aCons (eVar 1) (aCons (eVar 4) (aCons (eVar 2) (aCons (eVar 5) (aCons (eVar 6) (aCons (eVar 7) (aCons (e2 addP (eC (.int 1)) (eCall 2 c__law_take (aCons (eVar 0) (aCons (eC (.int 3)) (aNil))))) (aCons (eCall 2 c__law_take (aCons (eVar 0) (aCons (eC (.int 3)) (aNil)))) (aCons (e2 addP (eC (.int 1)) (eCall 2 c__law_take (aCons (eVar 0) (aCons (eC (.int 3)) (aNil))))) (aNil)))))))))))) (sNil)
noncomputable def d__law_show_bounds_5 : SM := sCons (sAsg (e2 mulP (eVar 1) (eCall 2 c__law_some (aCons (eVar 0) (aCons (eLst (aCons (eC (.int 8)) (aCons (eC (.int 30)) (aCons (eC (.int 12)) (aCons (eC (.int 8)) (aCons (eC (.int 20)) (aCons (eC (.int 8)) (aCons (eC (.int 3)) (aNil))))))))) (aNil))))) (gNm 7)) (d__law_show_bounds_6)
noncomputable def d__law_show_bounds_4 : SM := sCons (sPar [5, 6] (aCons (eCall 2 c__law_some (aCons (eVar 0) (aCons (eLst (aCons (eC (.int 0)) (aCons (eC (.int 1)) (aCons (eC (.int 2)) (aNil))))) (aNil)))) (aCons (eCall 2 c__law_some (aCons (eVar 0) (aCons (eLst (aCons (eC (.int 0)) (aCons (eC (.int 1)) (aCons (eC (.int 3)) (aCons (eC (.int 6)) (aNil)))))) (aNil)))) (aNil)))) (d__law_show_bounds_5)
noncomputable def d__law_show_bounds_3 : SM := sCons (sAsg (eCall 2 c__law_some (aCons (eVar 0) (aCons (eLst (aCons (eVar 3) (aCons (e2 addP (eC (.int 1)) (eCall 2 c__law_take (aCons (eVar 0) (aCons (eVar 3) (aNil))))) (aNil)))) (aNil)))) (gNm 4)) (d__law_show_bounds_4)
noncomputable def d__law_show_bounds_2 : SM := sCons (sAsg (eB (bP maxG) (aCons (eC (.int 1)) (aCons (e2 subP (e2 fdivP (e2 mulP (eVar 1) (eC (.int 7))) (eC (.int 10))) (e2 mulP (eC (.int 2)) (eVar 2))) (aNil)))) (gNm 3)) (d__law_show_bounds_3)
noncomputable def d__law_show_bounds_1 : SM := sCons (sAsg (eIf (tB (e2 gtP (eVar 1) (eC (.int 6)))) (eCall 2 c__law_some (aCons (eVar 0) (aCons (eLst (aCons (eC (.int 0)) (aCons (eC (.int 1)) (aCons (eC (.int 0)) (aNil))))) (aNil)))) (eC (.int 0))) (gNm 2)) (d__law_show_bounds_2)
noncomputable def m__law_show_bounds : SM := sCons (sAsg (eCall 2 c__law_some (aCons (eVar 0) (aCons (eLst (aCons (eC (.int 6)) (aCons (eC (.int 4)) (aCons (eC (.int 10)) (aCons (eC (.int 13)) (aCons (eC (.int 20)) (aNil))))))) (aNil)))) (gNm 1)) (d__law_show_bounds_1)
noncomputable def c__law_show_bounds : CM := fnSem 8 1 false m__law_show_bounds
/- _law_show_of(_law_bag_here, _law_bounds, _law_pads, _law_scenes, _law_more); slots: 0 _law_bag_here, 1 _law_bounds, 2 _law_pads, 3 _law_scenes, 4 _law_more, 5 _law_full, 6 _law_holding, 7 _law_flying, 8 _law_ticks, 9 _law_hold, 10 _law_picture_here -/
noncomputable def b__law_show_of_1 : SM := sCons (sAug 5 (e2 addP (e2 mulP (eVar 6) (eVar 9)) (e2 mulP (eB (bP maxG) (aCons (eVar 6) (aCons (eVar 7) (aNil)))) (eVar 8))) iaddP) (sNil)
noncomputable def d__law_show_of_2 : SM := sCons (sRet (eTup (aCons (eVar 1) (aCons (eB (bP tupG) (aCons (eVar 2) (aNil))) (aCons (eTup (aCons (e2 addP (eVar 5) (eVar 4)) (aCons (eVar 6) (aCons (eVar 7) (aNil))))) (aCons (eB (bP tupG) (aCons (eVar 3) (aNil))) (aNil))))))) (sNil)
noncomputable def d__law_show_of_1 : SM := sCons (sFor (iSq (eVar 3)) (gTp 3 (gsCons (gNm 8) (gsCons (gNm 9) (gsCons (gNm 10) (gsNil))))) (b__law_show_of_1)) (d__law_show_of_2)
noncomputable def m__law_show_of : SM := sCons (sPar [5, 6, 7] (aCons (eC (.int 0)) (aCons (eCall 2 c__law_some (aCons (eVar 0) (aCons (eLst (aCons (eC (.int 1)) (aCons (eC (.int 0)) (aCons (eC (.int 2)) (aNil))))) (aNil)))) (aCons (eCall 2 c__law_some (aCons (eVar 0) (aCons (eLst (aCons (eC (.int 2)) (aCons (eC (.int 1)) (aCons (eC (.int 3)) (aNil))))) (aNil)))) (aNil))))) (d__law_show_of_1)
noncomputable def c__law_show_of : CM := fnSem 11 5 false m__law_show_of
/- _law_part(_law_bag_here, _law_clock); slots: 0 _law_bag_here, 1 _law_clock, 2 _law_some_here -/
noncomputable def d__law_part_1 : SM := sCons (sRet (eCall 2 c__law_some (aCons (eVar 0) (aCons (eVar 2) (aNil))))) (sNil)
noncomputable def m__law_part : SM := sCons (sAsg (eLst (aCons (eTup (aCons (eC (.int 0)) (aCons (eC (.int 1)) (aNil)))) (aCons (eTup (aCons (eVar 1) (aCons (eC (.int 1)) (aNil)))) (aCons (eTup (aCons (e1 negP (eVar 1)) (aCons (eC (.int 1)) (aNil)))) (aCons (eCall 2 c__law_over (aCons (eVar 1) (aCons (eC (.int 2)) (aNil)))) (aCons (eCall 2 c__law_over (aCons (e1 negP (eVar 1)) (aCons (eC (.int 3)) (aNil)))) (aCons (eCall 2 c__law_over (aCons (e2 mulP (eC (.int 2)) (eVar 1)) (aCons (eC (.int 3)) (aNil)))) (aNil)))))))) (gNm 2)) (d__law_part_1)
noncomputable def c__law_part : CM := fnSem 3 2 false m__law_part
/- _law_wind(_law_bag_here, _law_wind_here); slots: 0 _law_bag_here, 1 _law_wind_here, 2 _law_some_here -/
noncomputable def d__law_wind_2 : SM := sCons (sRet (eCall 2 c__law_some (aCons (eVar 0) (aCons (e2 addP (eVar 2) (eLst (aCons (eTup (aCons (eCall 2 c__law_over (aCons (e1 negP (eVar 1)) (aCons (eC (.int 2)) (aNil)))) (aCons (eCall 2 c__law_over (aCons (eVar 1) (aCons (eC (.int 2)) (aNil)))) (aNil)))) (aCons (eTup (aCons (eTup (aCons (e1 negP (eVar 1)) (aCons (eC (.int 1)) (aNil)))) (aCons (eTup (aCons (eC (.int 0)) (aCons (eC (.int 1)) (aNil)))) (aNil)))) (aNil))))) (aNil))))) (sNil)
noncomputable def d__law_wind_1 : SM := sCons (sDrop (eMt cApp (eVar 2) (aCons (eTup (aCons (eCall 2 c__law_over (aCons (e2 mulP (eC (.int 3)) (eVar 1)) (aCons (eC (.int 5)) (aNil)))) (aCons (eCall 2 c__law_over (aCons (e2 mulP (eC (.int 4)) (eVar 1)) (aCons (eC (.int 5)) (aNil)))) (aNil)))) (aNil)))) (d__law_wind_2)
noncomputable def m__law_wind : SM := sCons (sAsg (eLstM (aCons (eTup (aCons (eTup (aCons (eC (.int 0)) (aCons (eC (.int 1)) (aNil)))) (aCons (eTup (aCons (eC (.int 0)) (aCons (eC (.int 1)) (aNil)))) (aNil)))) (aCons (eTup (aCons (eTup (aCons (eVar 1) (aCons (eC (.int 1)) (aNil)))) (aCons (eTup (aCons (eC (.int 0)) (aCons (eC (.int 1)) (aNil)))) (aNil)))) (aCons (eTup (aCons (eTup (aCons (eC (.int 0)) (aCons (eC (.int 1)) (aNil)))) (aCons (eTup (aCons (e1 negP (eVar 1)) (aCons (eC (.int 1)) (aNil)))) (aNil)))) (aNil))))) (gNm 2)) (d__law_wind_1)
noncomputable def c__law_wind : CM := fnSem 3 2 false m__law_wind
/- fall_of(show, night, carrier); slots: 0 show, 1 night, 2 carrier, 3 falls, 4 errs, 5 winds, 6 lost, 7 found, 8 leaves -/
noncomputable def d_fall_of_3 : SM := sCons (sRet (eIf (tB (e2 neP (eVar 7) (eLst (aNil)))) (eCall 1 c_least_of (aCons (eVar 7) (aNil))) (eC .non))) (sNil)
noncomputable def d_fall_of_2 : SM := sCons (sIf (tB (e2 inP (eVar 2) (eVar 6))) (sCons (sAsg (e2 subP (e2 ixP (e2 ixP (eCall 1 c_timeline (aCons (eVar 0) (aNil))) (e2 ixP (eVar 6) (eVar 2))) (eC (.int 1))) (eCall 1 c_lag_of (aCons (e2 ixP (eVar 0) (eC (.int 0))) (aNil)))) (gNm 8)) (sCons (sDrop (eMt cApp (eVar 7) (aCons (eCall 2 c_added (aCons (eTup (aCons (eVar 8) (aCons (eC (.int 1)) (aNil)))) (aCons (e2 ixP (e2 ixP (eVar 4) (eVar 2)) (e2 ixP (eVar 6) (eVar 2))) (aNil)))) (aNil)))) (sNil))) (sNil)) (d_fall_of_3)
noncomputable def d_fall_of_1 : SM := sCons (sAsg (eIf (tB (e2 inP (eVar 2) (eVar 3))) (eLstM (aCons (e2 ixP (eVar 3) (eVar 2)) (aNil))) (eLstM (aNil))) (gNm 7)) (d_fall_of_2)
noncomputable def m_fall_of : SM := sCons (sAsg (eVar 1) (gTp 4 (gsCons (gNm 3) (gsCons (gNm 4) (gsCons (gNm 5) (gsCons (gNm 6) (gsNil))))))) (d_fall_of_1)
noncomputable def c_fall_of : CM := fnSem 9 3 false m_fall_of
/- _law_writing(_law_show_here, _law_scene); slots: 0 _law_show_here, 1 _law_scene, 2 _law_bounds -/
noncomputable def d__law_writing_1 : SM := sCons (sRet (e2 subP (e2 subP (e2 subP (e2 subP (e2 ixP (e2 ixP (eCall 1 c__law_times (aCons (eVar 0) (aNil))) (eVar 1)) (eC (.int 1))) (eCall 1 c__law_lag (aCons (eVar 2) (aNil)))) (e2 ixP (eVar 2) (eC (.int 3)))) (e2 ixP (eVar 2) (eC (.int 6)))) (e2 ixP (eVar 2) (eC (.int 7))))) (sNil)
noncomputable def m__law_writing : SM := sCons (sAsg (e2 ixP (eVar 0) (eC (.int 0))) (gNm 2)) (d__law_writing_1)
noncomputable def c__law_writing : CM := fnSem 3 2 false m__law_writing
/- _law_show(_law_bag_here, _law_most_pads, _law_most_scenes); slots: 0 _law_bag_here, 1 _law_most_pads, 2 _law_most_scenes, 3 _law_bounds, 4 _law_spacing, 5 _law_deep, 6 _law_nears, 7 _law_least, 8 _law_high, 9 _law_wide, 10 _law_pads, 11 _law_scenes, 12 _law_number, 13 _law_turn, 14 _law_hold, 15 _law_picture_here, 16 _law_one -/
noncomputable def b__law_show_1 : SM := sCons (sDrop (eMt cApp (eVar 10) (aCons (eTup (aCons (e2 mulP (eVar 12) (eVar 9)) (aCons (e2 addP (eVar 8) (e2 mulP (eVar 4) (eCall 2 c__law_take (aCons (eVar 0) (aCons (eC (.int 2)) (aNil)))))) (aNil)))) (aNil)))) (sNil)
noncomputable def b__law_show_2_2 : SM := sCons (sDrop (eMt cApp (eVar 11) (aCons (eTup (aCons (e2 addP (eVar 7) (eCall 2 c__law_some (aCons (eVar 0) (aCons (eLst (aCons (eC (.int 0)) (aCons (eC (.int 1)) (aCons (eC (.int 7)) (aNil))))) (aNil))))) (aCons (eVar 14) (aCons (eVar 15) (aNil))))) (aNil)))) (sNil)
noncomputable def b__law_show_2_1 : SM := sCons (sAsg (eCall 4 c__law_picture (aCons (eVar 0) (aCons (eVar 4) (aCons (eVar 5) (aCons (eCall 2 c__law_some (aCons (eVar 0) (aCons (eLst (aCons (eC (.int 4)) (aCons (eC (.int 2)) (aCons (eC (.int 6)) (aNil))))) (aNil)))) (aNil)))))) (gNm 15)) (b__law_show_2_2)
noncomputable def b__law_show_2 : SM := sCons (sAsg (e2 addP (eCall 1 c__law_needed (aCons (eVar 3) (aNil))) (eCall 2 c__law_some (aCons (eVar 0) (aCons (eLst (aCons (eC (.int 0)) (aCons (eC (.int 3)) (aCons (eC (.int 1)) (aNil))))) (aNil))))) (gNm 14)) (b__law_show_2_1)
noncomputable def d__law_show_9 : SM := sCons (sRet (eCall 5 c__law_show_of (aCons (eVar 0) (aCons (eVar 3) (aCons (eVar 10) (aCons (eVar 11) (aCons (eCall 2 c__law_some (aCons (eVar 0) (aCons (eLst (aCons (eC (.int 0)) (aCons (eC (.int 5)) (aNil)))) (aNil)))) (aNil)))))))) (sNil)
noncomputable def d__law_show_8 : SM := sCons (sFor (iRg rng1 (aCons (e2 addP (eC (.int 1)) (eCall 2 c__law_take (aCons (eVar 0) (aCons (eVar 2) (aNil))))) (aNil))) (gNm 13) (b__law_show_2)) (d__law_show_9)
noncomputable def d__law_show_7 : SM := sCons (sFor (iRg rng1 (aCons (e2 addP (eC (.int 1)) (eCall 2 c__law_take (aCons (eVar 0) (aCons (eVar 1) (aNil))))) (aNil))) (gNm 12) (b__law_show_1)) (d__law_show_8)
noncomputable def d__law_show_6 : SM := sCons (sPar [8, 9, 10, 11] (aCons (e2 addP (e2 mulP (e2 addP (eVar 5) (eC (.int 1))) (eVar 4)) (eCall 2 c__law_take (aCons (eVar 0) (aCons (eVar 4) (aNil))))) (aCons (e2 addP (eVar 4) (eCall 2 c__law_take (aCons (eVar 0) (aCons (eC (.int 2)) (aNil))))) (aCons (eLstM (aNil)) (aCons (eLstM (aNil)) (aNil)))))) (d__law_show_7)
noncomputable def d__law_show_5 : SM := sCons (sAsg (eCall 2 c__law_first_enough (aCons (eVar 3) (aCons (eC (.int 9990)) (aNil)))) (gNm 7)) (d__law_show_6)
noncomputable def d__law_show_4 : SM := sCons (sAsg (eIf (tB (e2 neP (eVar 6) (eLst (aNil)))) (e2 addP (eTup (aCons (eVar 4) (aCons (e2 ixP (eVar 6) (eC (.int 0))) (aNil)))) (eSl (eVar 3) (oSome (eC (.int 2))) (oNo))) (e2 addP (eTup (aCons (eVar 4) (aCons (eC (.int 1)) (aCons (eC (.int 0)) (aCons (eC (.int 0)) (aCons (eC (.int 0)) (aNil))))))) (eSl (eVar 3) (oSome (eC (.int 5))) (oNo)))) (gNm 3)) (d__law_show_5)
noncomputable def d__law_show_3 : SM := sCons (sAsg (eLc (iSq (eVar 6)) [16] (gNm 16) (tB (e2 isntP (eCall 2 c__law_first_enough (aCons (e2 addP (eTup (aCons (eVar 4) (aCons (eVar 16) (aNil)))) (eSl (eVar 3) (oSome (eC (.int 2))) (oNo))) (aCons (eC (.int 9990)) (aNil)))) (eC .non))) (eVar 16)) (gNm 6)) (d__law_show_4)
noncomputable def d__law_show_2 : SM := sCons (sAsg (eRl false rgl3 (aCons (e2 ixP (eVar 3) (eC (.int 1))) (aCons (eC (.int 0)) (aCons (e1 negP (eC (.int 1))) (aNil))))) (gNm 6)) (d__law_show_3)
noncomputable def d__law_show_1 : SM := sCons (sPar [4, 5] (aCons (e2 ixP (eVar 3) (eC (.int 0))) (aCons (e2 ixP (eVar 3) (eC (.int 8))) (aNil)))) (d__law_show_2)
noncomputable def m__law_show : SM := sCons (sAsg (eCall 1 c__law_show_bounds (aCons (eVar 0) (aNil))) (gNm 3)) (d__law_show_1)
noncomputable def c__law_show : CM := fnSem 17 3 false m__law_show
/- _law_fall(_law_show_here, _law_night_here, _law_carrier); slots: 0 _law_show_here, 1 _law_night_here, 2 _law_carrier, 3 _law_found, 4 _law_scene, 5 _law_least -/
noncomputable def d__law_fall_3 : SM := sCons (sRet (eIf (tAn (tB (e2 gtP (eB (bP lenG) (aCons (eVar 3) (aNil))) (eC (.int 1)))) (tB (eCall 2 c__law_is_below (aCons (e2 ixP (eVar 3) (eC (.int 1))) (aCons (e2 ixP (eVar 3) (eC (.int 0))) (aNil)))))) (e2 ixP (eVar 3) (eC (.int 1))) (eVar 5))) (sNil)
noncomputable def d__law_fall_2 : SM := sCons (sAsg (eIf (tB (e2 neP (eVar 3) (eLst (aNil)))) (e2 ixP (eVar 3) (eC (.int 0))) (eC .non)) (gNm 5)) (d__law_fall_3)
noncomputable def d__law_fall_1 : SM := sCons (sIf (tB (e2 inP (eVar 2) (e2 ixP (eVar 1) (eC (.int 3))))) (sCons (sAsg (e2 ixP (e2 ixP (eVar 1) (eC (.int 3))) (eVar 2)) (gNm 4)) (sCons (sDrop (eMt cApp (eVar 3) (aCons (eCall 2 c__law_added (aCons (eTup (aCons (e2 subP (e2 ixP (e2 ixP (eCall 1 c__law_times (aCons (eVar 0) (aNil))) (eVar 4)) (eC (.int 1))) (eCall 1 c__law_lag (aCons (e2 ixP (eVar 0) (eC (.int 0))) (aNil)))) (aCons (eC (.int 1)) (aNil)))) (aCons (e2 ixP (e2 ixP (e2 ixP (eVar 1) (eC (.int 1))) (eVar 2)) (eVar 4)) (aNil)))) (aNil)))) (sNil))) (sNil)) (d__law_fall_2)
noncomputable def m__law_fall : SM := sCons (sAsg (eIf (tB (e2 inP (eVar 2) (e2 ixP (eVar 1) (eC (.int 0))))) (eLstM (aCons (e2 ixP (e2 ixP (eVar 1) (eC (.int 0))) (eVar 2)) (aNil))) (eLstM (aNil))) (gNm 3)) (d__law_fall_1)
noncomputable def c__law_fall : CM := fnSem 6 3 false m__law_fall
/- struck(show, night); slots: 0 show, 1 night, 2 carrier -/
noncomputable def m_struck : SM := sCons (sRet (eB (bP tupG) (aCons (eLc (iSq (eCall 1 c_carriers_of (aCons (eVar 0) (aNil)))) [2] (gNm 2) (tB (e2 isntP (eCall 3 c_fall_of (aCons (eVar 0) (aCons (eVar 1) (aCons (eVar 2) (aNil))))) (eC .non))) (eVar 2)) (aNil)))) (sNil)
noncomputable def c_struck : CM := fnSem 3 2 false m_struck
/- _law_moment(_law_bag_here, _law_show_here); slots: 0 _law_bag_here, 1 _law_show_here, 2 _law_times_here, 3 _law_opens, 4 _law_leaves, 5 _law_arrives, 6 _law_ends, 7 _law_writing_here, 8 _law_middle, 9 _law_tick, 10 _law_found, 11 _law_last -/
noncomputable def d__law_moment_7 : SM := sCons (sRet (eIf (tB (e2 ltP (e2 ixP (eVar 10) (eC (.int 0))) (eC (.int 0)))) (eTup (aCons (eC (.int 0)) (aCons (eC (.int 1)) (aNil)))) (eIf (tB (eCall 2 c__law_is_below (aCons (eVar 11) (aCons (eVar 10) (aNil))))) (eVar 11) (eVar 10)))) (sNil)
noncomputable def d__law_moment_6 : SM := sCons (sAsg (eTup (aCons (e2 ixP (e2 ixP (eVar 2) (e1 negP (eC (.int 1)))) (eC (.int 3))) (aCons (eC (.int 1)) (aNil)))) (gNm 11)) (d__law_moment_7)
noncomputable def d__law_moment_5 : SM := sCons (sAsg (eCall 2 c__law_added (aCons (eTup (aCons (eVar 9) (aCons (eC (.int 1)) (aNil)))) (aCons (eCall 2 c__law_some (aCons (eVar 0) (aCons (eLst (aCons (eTup (aCons (eC (.int 0)) (aCons (eC (.int 1)) (aNil)))) (aCons (eTup (aCons (eC (.int 1)) (aCons (eC (.int 2)) (aNil)))) (aCons (eTup (aCons (e1 negP (eC (.int 1))) (aCons (eC (.int 3)) (aNil)))) (aCons (eTup (aCons (e2 ixP (e2 ixP (eVar 1) (eC (.int 0))) (eC (.int 4))) (aCons (eC (.int 1)) (aNil)))) (aCons (eTup (aCons (e1 negP (eC (.int 1))) (aCons (eC (.int 1)) (aNil)))) (aCons (eTup (aCons (eC (.int 0)) (aCons (eC (.int 1)) (aNil)))) (aNil)))))))) (aNil)))) (aNil)))) (gNm 10)) (d__law_moment_6)
noncomputable def d__law_moment_4 : SM := sCons (sAsg (eCall 2 c__law_some (aCons (eVar 0) (aCons (eLst (aCons (eVar 3) (aCons (eVar 4) (aCons (eVar 5) (aCons (eVar 6) (aCons (eVar 7) (aCons (e2 subP (e2 subP (eVar 4) (e2 ixP (e2 ixP (eVar 1) (eC (.int 0))) (eC (.int 4)))) (e2 ixP (e2 ixP (eVar 1) (eC (.int 0))) (eC (.int 3)))) (aCons (eVar 8) (aNil))))))))) (aNil)))) (gNm 9)) (d__law_moment_5)
noncomputable def d__law_moment_3 : SM := sCons (sAsg (e2 fdivP (e2 addP (eVar 4) (eVar 5)) (eC (.int 2))) (gNm 8)) (d__law_moment_4)
noncomputable def d__law_moment_2 : SM := sCons (sAsg (eCall 2 c__law_writing (aCons (eVar 1) (aCons (eMt cIdx (eVar 2) (aCons (eTup (aCons (eVar 3) (aCons (eVar 4) (aCons (eVar 5) (aCons (eVar 6) (aNil)))))) (aNil))) (aNil)))) (gNm 7)) (d__law_moment_3)
noncomputable def d__law_moment_1 : SM := sCons (sAsg (eCall 2 c__law_some (aCons (eVar 0) (aCons (eVar 2) (aNil)))) (gTp 4 (gsCons (gNm 3) (gsCons (gNm 4) (gsCons (gNm 5) (gsCons (gNm 6) (gsNil))))))) (d__law_moment_2)
noncomputable def m__law_moment : SM := sCons (sAsg (eCall 1 c__law_times (aCons (eVar 1) (aNil))) (gNm 2)) (d__law_moment_1)
noncomputable def c__law_moment : CM := fnSem 12 2 false m__law_moment
/- _law_night(_law_bag_here, _law_show_here, _law_often); slots: 0 _law_bag_here, 1 _law_show_here, 2 _law_often, 3 _law_falls, 4 _law_errs, 5 _law_winds, 6 _law_lost, 7 _law_carrier, 8 _law_way, 9 _law_scene, 10 _law_turn -/
noncomputable def b__law_night_1_4 : SM := sCons (sIf (tB (e2 eqP (eVar 8) (eC (.int 1)))) (sCons (sAsg (eCall 2 c__law_take (aCons (eVar 0) (aCons (eB (bP lenG) (aCons (e2 ixP (eVar 1) (eC (.int 3))) (aNil))) (aNil)))) (gSb (eVar 6) (eVar 7) wSet)) (sNil)) (sNil)) (sNil)
noncomputable def b__law_night_1_3 : SM := sCons (sIf (tB (e2 eqP (eVar 8) (eC (.int 0)))) (sCons (sAsg (eCall 2 c__law_moment (aCons (eVar 0) (aCons (eVar 1) (aNil)))) (gSb (eVar 3) (eVar 7) wSet)) (sNil)) (sNil)) (b__law_night_1_4)
noncomputable def b__law_night_1_2 : SM := sCons (sAsg (eCall 2 c__law_take (aCons (eVar 0) (aCons (e2 mulP (eC (.int 2)) (eVar 2)) (aNil)))) (gNm 8)) (b__law_night_1_3)
noncomputable def b__law_night_1_1 : SM := sCons (sAsg (eB (bP tupG) (aCons (eLc (iRg rng1 (aCons (e2 addP (eB (bP lenG) (aCons (e2 ixP (eVar 1) (eC (.int 3))) (aNil))) (eC (.int 1))) (aNil))) [10] (gNm 10) (tYe) (eCall 2 c__law_wind (aCons (eVar 0) (aCons (e2 ixP (e2 ixP (eVar 1) (eC (.int 0))) (eC (.int 2))) (aNil))))) (aNil))) (gSb (eVar 5) (eVar 7) wSet)) (b__law_night_1_2)
noncomputable def b__law_night_1 : SM := sCons (sAsg (eB (bP tupG) (aCons (eLc (iSq (e2 ixP (eVar 1) (eC (.int 3)))) [9] (gNm 9) (tYe) (eCall 2 c__law_part (aCons (eVar 0) (aCons (e2 ixP (e2 ixP (eVar 1) (eC (.int 0))) (eC (.int 3))) (aNil))))) (aNil))) (gSb (eVar 4) (eVar 7) wSet)) (b__law_night_1_1)
noncomputable def d__law_night_2 : SM := sCons (sRetT (aCons (eVar 3) (aCons (eVar 4) (aCons (eVar 5) (aCons (eVar 6) (aNil)))))) (sNil)
noncomputable def d__law_night_1 : SM := sCons (sFor (iRg rng1 (aCons (eB (bP lenG) (aCons (e2 ixP (eVar 1) (eC (.int 1))) (aNil))) (aNil))) (gNm 7) (b__law_night_1)) (d__law_night_2)
noncomputable def m__law_night : SM := sCons (sPar [3, 4, 5, 6] (aCons (eDctM false) (aCons (eDctM false) (aCons (eDctM false) (aCons (eDctM false) (aNil)))))) (d__law_night_1)
noncomputable def c__law_night : CM := fnSem 11 3 false m__law_night
/- law(_law_script); slots: 0 _law_script, 1 _law_bag_here, 2 _law_turn, 3 _law_show_here, 4 _law_k, 5 _law_night_here, 6 _law_said, 7 _law_due, 8 _law_told, 9 _law_falling, 10 _law_one, 11 _law_fall_here -/
noncomputable def b_law_2_5 : SM := sCons (sIf (tB (e2 neP (eB (bP repG) (aCons (eLst (aCons (eVar 3) (aCons (eVar 5) (aNil)))) (aNil))) (eVar 6))) (sCons (sRet (eC (.bl false))) (sNil)) (sNil)) (sNil)
noncomputable def b_law_2_4 : SM := sCons (sIf (tOr (tN (tB (eCall 2 c__law_alike (aCons (eVar 8) (aCons (eVar 7) (aNil)))))) (tN (tB (eCall 2 c__law_alike (aCons (e2 mulP (eLst (aCons (eCall 2 c_struck (aCons (eVar 3) (aCons (eVar 5) (aNil)))) (aNil))) (eC (.int 2))) (aCons (e2 mulP (eLst (aCons (eVar 9) (aNil))) (eC (.int 2))) (aNil))))))) (sCons (sRet (eC (.bl false))) (sNil)) (sNil)) (b_law_2_5)
noncomputable def b_law_2_3 : SM := sCons (sAsg (eB (bP tupG) (aCons (eLc (iEn (aCons (eVar 7) (aNil))) [10, 11] (gTp 2 (gsCons (gNm 10) (gsCons (gNm 11) (gsNil)))) (tB (e2 isntP (eVar 11) (eC .non))) (eVar 10)) (aNil))) (gNm 9)) (b_law_2_4)
noncomputable def b_law_2_2 : SM := sCons (sAsg (eLc (iRg rng1 (aCons (eB (bP lenG) (aCons (e2 ixP (eVar 3) (eC (.int 1))) (aNil))) (aNil))) [10] (gNm 10) (tYe) (eCall 3 c_fall_of (aCons (eVar 3) (aCons (eVar 5) (aCons (eVar 10) (aNil)))))) (gNm 8)) (b_law_2_3)
noncomputable def b_law_2_1 : SM := sCons (sPar [6, 7] (aCons (eB (bP repG) (aCons (eLst (aCons (eVar 3) (aCons (eVar 5) (aNil)))) (aNil))) (aCons (eLc (iRg rng1 (aCons (eB (bP lenG) (aCons (e2 ixP (eVar 3) (eC (.int 1))) (aNil))) (aNil))) [10] (gNm 10) (tYe) (eCall 3 c__law_fall (aCons (eVar 3) (aCons (eVar 5) (aCons (eVar 10) (aNil)))))) (aNil)))) (b_law_2_2)
noncomputable def b_law_2 : SM := sCons (sAsg (eCall 3 c__law_night (aCons (eVar 1) (aCons (eVar 3) (aCons (eC (.int 1)) (aNil))))) (gNm 5)) (b_law_2_1)
noncomputable def b_law_1_1 : SM := sCons (sFor (iRg rng1 (aCons (eC (.int 2)) (aNil))) (gNm 4) (b_law_2)) (sNil)
noncomputable def b_law_1 : SM := sCons (sAsg (eCall 3 c__law_show (aCons (eVar 1) (aCons (eC (.int 3)) (aCons (eC (.int 2)) (aNil))))) (gNm 3)) (b_law_1_1)
noncomputable def d_law_2 : SM := sCons (sRet (eC (.bl true))) (sNil)
noncomputable def d_law_1 : SM := sCons (sFor (iRg rng1 (aCons (eC (.int 3)) (aNil))) (gNm 2) (b_law_1)) (d_law_2)
noncomputable def m_law : SM := sCons (sAsg (eCall 1 c__law_bag (aCons (eVar 0) (aNil))) (gNm 1)) (d_law_1)
noncomputable def c_law : CM := fnSem 12 1 false m_law
end K61

namespace K61
open PySem PySem.Spec PyProof.Rows L2 Dn
/-- the bag of drawn numbers -/
def BagO (o : SO) : Prop := ∃ (a b c : Int) (cs : List Int), o = .lst [.int a, .int b, .int c, .lst (cs.map PV.int)] ∧ 0 ≤ a ∧ 0 ≤ b ∧ b < 2147483647 ∧ 0 ≤ c ∧ cs.length ≤ 1000
theorem back_at {a : Int} {many z : Int} {S : Sto} {n : Nat} {Q : RV → Sto → Prop} (h1 : 1 ≤ many) (h2 : many < 2 ^ 60) (h : S.length = n) (k : ∀ v : Int, 0 ≤ v → v < many → Q (.v (.int v)) S) : n ≤ S.length ∧ Q (.v (.int (z % many))) (List.take n S) := by
  subst h
  rw [List.take_length]
  exact ⟨Nat.le_refl _, k _ (Int.emod_nonneg _ (by omega)) (Int.emod_lt_of_pos _ (by omega))⟩
theorem w_take {R : Sto} {o : SO} {many : Int} {Q : RV → Sto → Prop} (hB : BagO o) (h1 : 1 ≤ many) (h2 : many < 2 ^ 60) (k : ∀ (v : Int) o', BagO o' → 0 ≤ v → v < many → Q (.v (.int v)) (o' :: R)) : WC c__law_take [.ref 0, .v (.int many)] (o :: R) Q := by
  obtain ⟨a, b, c, cs, rfl, ha, hb, hb2, hc, hl⟩ := hB
  have hm := div_ok (j := many) (by omega) h2
  have tail : ∀ (a b c : Int) (y z u v w : Option RV) (n : Nat), 0 ≤ a → 0 ≤ b → b < 2147483647 → 0 ≤ c → R.length + 1 = n →
      (if 0 < a then 0 < many ∧ divOk many = true ∧ n ≤ (SO.lst [PV.int (a / many), PV.int b, PV.int c, PV.lst (cs.map PV.int)] :: R).length ∧ Q (.v (.int (a % many))) (List.take n (SO.lst [PV.int (a / many), PV.int b, PV.int c, PV.lst (cs.map PV.int)] :: R))
      else mulOk (b + 1) 39373 = true ∧ (0 : Int) < 1000000007 ∧ mulOk ((b + 1) * 39373 % 1000000007) ((b + 1) * 39373 % 1000000007) = true ∧ (0 : Int) < 998244353 ∧
        mulOk ((b + 1) * 39373 % 1000000007 * ((b + 1) * 39373 % 1000000007) % 998244353) 30011 = true ∧ (0 : Int) < 998244353 ∧ divOk 7 = true ∧ 0 < many ∧ n ≤ (SO.lst [PV.int a, PV.int b, PV.int c, PV.lst (cs.map PV.int)] :: R).length ∧
          Q (.v (.int ((b + 1) * 39373 % 1000000007 * ((b + 1) * 39373 % 1000000007) % 998244353 * 30011 % 998244353 / 7 % many))) (List.take n (SO.lst [PV.int a, PV.int b, PV.int c, PV.lst (cs.map PV.int)] :: R))) := by
    intro a b c y z u v w n ha hb hb2 hc hn
    split
    · exact ⟨by omega, hm, back_at (a := a) h1 h2 hn fun v => k v _ ⟨_, _, _, cs, rfl, Int.ediv_nonneg ha (by omega), hb, hb2, hc, hl⟩⟩
    · exact ⟨mul_r (by decide) (by decide), by decide, mul_r (by omega) (by omega), by decide, mul_r (by decide) (by decide), by decide, by decide, by omega, back_at (a := a) h1 h2 hn fun v => k v _ ⟨_, _, _, cs, rfl, ha, hb, hb2, hc, hl⟩⟩
  refine wc_d rfl ?_
  unfold m__law_take d__law_take_1 d__law_take_2 d__law_take_3 d__law_take_4
  show W _ [some (.ref 0), some (.v (.int many)), none, none, none, none, none] _ _
  by_cases h0 : a = 0
  · subst h0
    simp only [↓w_c, ↓w_e2, ↓we1', ↓p_v, ↓pr0, ↓pr1, ↓pr2, ↓pr3, ↓prA, ↓prB, ↓poL, ↓poD, ↓wB', ↓wt_N, ↓wt_An, ↓wt_Or, ↓wt_Ye, ↓w_Bo, ↓w_An, ↓w_Or, ↓w_If, ↓ws_If, ↓wa_Nil, ↓wa_Cons, ↓wTup', ↓wLst', ↓wLstM', ↓w_Dct, ↓w_DctM, ↓w_B, ↓w_Call, ↓wMt', ↓pl_nil, ↓pl_cons, ↓wc_P, ↓wc_M, ↓wSl', ↓wo_No, ↓woS', ↓wRlv, ↓wRlm, ↓ws_Nil, ↓ws_Cons, ↓then_nx, ↓then_rt, ↓ws_Asg, ↓wg_Nm, ↓wg_Tp, ↓wgs_Nil, ↓wgs_Cons, ↓wgSb', ↓ws_Par, ↓aug0, ↓aug1, ↓aug2, ↓aug3, ↓aug4, ↓aug5, ↓aug6, ↓aug7, ↓aug8, ↓aug9, ↓aug10, ↓aug11, ↓aug12, ↓aug13, ↓aug14, ↓aug15, ↓aug16, ↓aug17, ↓wAugS', ↓ws_Ret, ↓ws_RetT, ↓ws_Drop, ↓ws_For, ↓wSq', ↓wRg', ↓rg1, ↓rg2, ↓rg3, ↓rl1, ↓rl2, ↓rl3, ↓wEn', ↓enV, ↓wZp', ↓zpVV, ↓zpVB, ↓g_add, ↓g_addL, ↓g_addT, ↓g_iadd, ↓g_sub, ↓g_mul, ↓g_mulL, ↓g_fdiv, ↓g_mod, ↓g_pow, ↓g_lt, ↓g_le, ↓g_gt, ↓g_ge, ↓g_eqI, ↓g_neI, ↓g_is, ↓g_isnt, ↓g_ixT, ↓g_ixL, ↓g_ixD, ↓gl_abs, ↓gl_max, ↓gl_min, ↓gl_int, ↓gl_intB, ↓gl_gcd, ↓gl_lenL, ↓gl_lenT, ↓gl_tupL, ↓gl_tupT, ↓gl_lstL, ↓gl_lstT, ↓gl_rep, ↓gl_sortD, ↓gl_sortL, ↓ngI, ↓slL, ↓slT, ↓slS, ↓bo, ↓io, ↓av0, ↓av1, ↓itL, ↓itT, ↓it0, ↓it1, ↓it2, ↓itB, ↓rtB, ↓rt_v, ↓g_ninI, ↓g_inI, ↓w_Lc, ↓w_LcM, ↓turn_nx, wipeL_cons, wipeL_nil, ↓sw0, ↓sw1, ↓sw2, ↓gix2, ↓app0, ↓app1, ↓app2, ↓appB, ↓isL0, ↓isL1, ↓isL2, ↓isLB, ↓isLv, ↓at_head, ↓v0, ↓v1, ↓v2, ↓v3, ↓v4, ↓v5, ↓v6, ↓v7, ↓v8, ↓v9, ↓v10, ↓v11, ↓v12, ↓v13, ↓v14, ↓v15, ↓v16, ↓v17, ↓t0, ↓t1, ↓t2, ↓t3, ↓t4, ↓t5, ↓t6, ↓t7, ↓t8, ↓setAll0, ↓setAll1, List.set_cons_zero, List.set_cons_succ, decide_eq_true_eq, Bool.not_eq_true', decide_eq_false_iff_not]
    rw [if_pos trivial]
    obtain ⟨ds, hds, hdl⟩ := cut_ints cs (some c) none
    rw [hds]
    refine ⟨by decide, by show smallL ((ds.map PV.int).length + 1) = true; rw [small_of, List.length_map]; omega, ?_⟩
    simp only [↓w_c, ↓w_e2, ↓we1', ↓p_v, ↓pr0, ↓pr1, ↓pr2, ↓pr3, ↓prA, ↓prB, ↓poL, ↓poD, ↓wB', ↓wt_N, ↓wt_An, ↓wt_Or, ↓wt_Ye, ↓w_Bo, ↓w_An, ↓w_Or, ↓w_If, ↓ws_If, ↓wa_Nil, ↓wa_Cons, ↓wTup', ↓wLst', ↓wLstM', ↓w_Dct, ↓w_DctM, ↓w_B, ↓w_Call, ↓wMt', ↓pl_nil, ↓pl_cons, ↓wc_P, ↓wc_M, ↓wSl', ↓wo_No, ↓woS', ↓wRlv, ↓wRlm, ↓ws_Nil, ↓ws_Cons, ↓then_nx, ↓then_rt, ↓ws_Asg, ↓wg_Nm, ↓wg_Tp, ↓wgs_Nil, ↓wgs_Cons, ↓wgSb', ↓ws_Par, ↓aug0, ↓aug1, ↓aug2, ↓aug3, ↓aug4, ↓aug5, ↓aug6, ↓aug7, ↓aug8, ↓aug9, ↓aug10, ↓aug11, ↓aug12, ↓aug13, ↓aug14, ↓aug15, ↓aug16, ↓aug17, ↓wAugS', ↓ws_Ret, ↓ws_RetT, ↓ws_Drop, ↓ws_For, ↓wSq', ↓wRg', ↓rg1, ↓rg2, ↓rg3, ↓rl1, ↓rl2, ↓rl3, ↓wEn', ↓enV, ↓wZp', ↓zpVV, ↓zpVB, ↓g_add, ↓g_addL, ↓g_addT, ↓g_iadd, ↓g_sub, ↓g_mul, ↓g_mulL, ↓g_fdiv, ↓g_mod, ↓g_pow, ↓g_lt, ↓g_le, ↓g_gt, ↓g_ge, ↓g_eqI, ↓g_neI, ↓g_is, ↓g_isnt, ↓g_ixT, ↓g_ixL, ↓g_ixD, ↓gl_abs, ↓gl_max, ↓gl_min, ↓gl_int, ↓gl_intB, ↓gl_gcd, ↓gl_lenL, ↓gl_lenT, ↓gl_tupL, ↓gl_tupT, ↓gl_lstL, ↓gl_lstT, ↓gl_rep, ↓gl_sortD, ↓gl_sortL, ↓ngI, ↓slL, ↓slT, ↓slS, ↓bo, ↓io, ↓av0, ↓av1, ↓itL, ↓itT, ↓it0, ↓it1, ↓it2, ↓itB, ↓rtB, ↓rt_v, ↓g_ninI, ↓g_inI, ↓w_Lc, ↓w_LcM, ↓turn_nx, wipeL_cons, wipeL_nil, ↓sw0, ↓sw1, ↓sw2, ↓gix2, ↓app0, ↓app1, ↓app2, ↓appB, ↓isL0, ↓isL1, ↓isL2, ↓isLB, ↓isLv, ↓at_head, ↓v0, ↓v1, ↓v2, ↓v3, ↓v4, ↓v5, ↓v6, ↓v7, ↓v8, ↓v9, ↓v10, ↓v11, ↓v12, ↓v13, ↓v14, ↓v15, ↓v16, ↓v17, ↓t0, ↓t1, ↓t2, ↓t3, ↓t4, ↓t5, ↓t6, ↓t7, ↓t8, ↓setAll0, ↓setAll1, List.set_cons_zero, List.set_cons_succ, decide_eq_true_eq, Bool.not_eq_true', decide_eq_false_iff_not]
    refine ⟨by decide, ?_⟩
    have mb : ∀ q : Int, 0 ≤ q % 2147483647 ∧ q % 2147483647 < 2147483647 := fun q => ⟨Int.emod_nonneg _ (by decide), Int.emod_lt_of_pos _ (by decide)⟩
    split
    · rename_i hbig
      have e18 : (10 : Int) ^ Int.toNat 18 = 1000000000000000000 := by decide
      rw [e18] at hbig
      exact ⟨mul_r (by decide) (by decide), by decide, mul_l (by decide) (by decide), by decide, tail (ds.headD 0) _ _ none none none none none _ (by omega) (mb _).1 (mb _).2 (by omega) rfl⟩
    · exact ⟨mul_r (by decide) (by decide), by decide, mul_l (by decide) (by decide), by decide, tail 0 _ _ none none none none none _ (by omega) (mb _).1 (mb _).2 (by omega) rfl⟩
  · simp only [↓w_c, ↓w_e2, ↓we1', ↓p_v, ↓pr0, ↓pr1, ↓pr2, ↓pr3, ↓prA, ↓prB, ↓poL, ↓poD, ↓wB', ↓wt_N, ↓wt_An, ↓wt_Or, ↓wt_Ye, ↓w_Bo, ↓w_An, ↓w_Or, ↓w_If, ↓ws_If, ↓wa_Nil, ↓wa_Cons, ↓wTup', ↓wLst', ↓wLstM', ↓w_Dct, ↓w_DctM, ↓w_B, ↓w_Call, ↓wMt', ↓pl_nil, ↓pl_cons, ↓wc_P, ↓wc_M, ↓wSl', ↓wo_No, ↓woS', ↓wRlv, ↓wRlm, ↓ws_Nil, ↓ws_Cons, ↓then_nx, ↓then_rt, ↓ws_Asg, ↓wg_Nm, ↓wg_Tp, ↓wgs_Nil, ↓wgs_Cons, ↓wgSb', ↓ws_Par, ↓aug0, ↓aug1, ↓aug2, ↓aug3, ↓aug4, ↓aug5, ↓aug6, ↓aug7, ↓aug8, ↓aug9, ↓aug10, ↓aug11, ↓aug12, ↓aug13, ↓aug14, ↓aug15, ↓aug16, ↓aug17, ↓wAugS', ↓ws_Ret, ↓ws_RetT, ↓ws_Drop, ↓ws_For, ↓wSq', ↓wRg', ↓rg1, ↓rg2, ↓rg3, ↓rl1, ↓rl2, ↓rl3, ↓wEn', ↓enV, ↓wZp', ↓zpVV, ↓zpVB, ↓g_add, ↓g_addL, ↓g_addT, ↓g_iadd, ↓g_sub, ↓g_mul, ↓g_mulL, ↓g_fdiv, ↓g_mod, ↓g_pow, ↓g_lt, ↓g_le, ↓g_gt, ↓g_ge, ↓g_eqI, ↓g_neI, ↓g_is, ↓g_isnt, ↓g_ixT, ↓g_ixL, ↓g_ixD, ↓gl_abs, ↓gl_max, ↓gl_min, ↓gl_int, ↓gl_intB, ↓gl_gcd, ↓gl_lenL, ↓gl_lenT, ↓gl_tupL, ↓gl_tupT, ↓gl_lstL, ↓gl_lstT, ↓gl_rep, ↓gl_sortD, ↓gl_sortL, ↓ngI, ↓slL, ↓slT, ↓slS, ↓bo, ↓io, ↓av0, ↓av1, ↓itL, ↓itT, ↓it0, ↓it1, ↓it2, ↓itB, ↓rtB, ↓rt_v, ↓g_ninI, ↓g_inI, ↓w_Lc, ↓w_LcM, ↓turn_nx, wipeL_cons, wipeL_nil, ↓sw0, ↓sw1, ↓sw2, ↓gix2, ↓app0, ↓app1, ↓app2, ↓appB, ↓isL0, ↓isL1, ↓isL2, ↓isLB, ↓isLv, ↓at_head, ↓v0, ↓v1, ↓v2, ↓v3, ↓v4, ↓v5, ↓v6, ↓v7, ↓v8, ↓v9, ↓v10, ↓v11, ↓v12, ↓v13, ↓v14, ↓v15, ↓v16, ↓v17, ↓t0, ↓t1, ↓t2, ↓t3, ↓t4, ↓t5, ↓t6, ↓t7, ↓t8, ↓setAll0, ↓setAll1, List.set_cons_zero, List.set_cons_succ, decide_eq_true_eq, Bool.not_eq_true', decide_eq_false_iff_not]
    rw [if_neg h0]
    exact tail a b c none none none none none _ ha hb hb2 hc rfl

theorem end1 {o o' : SO} {R : Sto} {Q : Sto → Prop} (q : Q (o' :: R)) : (o :: R).length ≤ (o' :: R).length ∧ Q (List.take (o :: R).length (o' :: R)) := by
  refine ⟨Nat.le_refl _, ?_⟩
  rw [show List.take (o :: R).length (o' :: R) = o' :: R by simp]
  exact q
theorem mem_at {xs : List PV} {i : Int} (h0 : 0 ≤ i) (h1 : i < xs.length) : ∃ x, atI xs i = some x ∧ x ∈ xs := by
  obtain ⟨n, rfl⟩ := Int.eq_ofNat_of_zero_le h0
  rw [Dn.atI_nat]
  have hn : n < xs.length := by omega
  exact ⟨xs[n], List.getElem?_eq_getElem hn, List.getElem_mem hn⟩
theorem w_some {R : Sto} {o : SO} {xs : List PV} {Q : RV → Sto → Prop} (hB : BagO o) (h1 : xs ≠ []) (h2 : xs.length ≤ 1000000) (k : ∀ x o', x ∈ xs → BagO o' → Q (.v x) (o' :: R)) : WC c__law_some [.ref 0, .v (.lst xs)] (o :: R) Q := by
  refine wc_d rfl ?_
  unfold m__law_some
  show W _ [some (.ref 0), some (.v (.lst xs))] _ _
  have hp : 0 < xs.length := List.length_pos_iff.mpr h1
  simp only [↓w_c, ↓w_e2, ↓we1', ↓p_v, ↓pr0, ↓pr1, ↓pr2, ↓pr3, ↓prA, ↓prB, ↓poL, ↓poD, ↓wB', ↓wt_N, ↓wt_An, ↓wt_Or, ↓wt_Ye, ↓w_Bo, ↓w_An, ↓w_Or, ↓w_If, ↓ws_If, ↓wa_Nil, ↓wa_Cons, ↓wTup', ↓wLst', ↓wLstM', ↓w_Dct, ↓w_DctM, ↓w_B, ↓w_Call, ↓wMt', ↓pl_nil, ↓pl_cons, ↓wc_P, ↓wc_M, ↓wSl', ↓wo_No, ↓woS', ↓wRlv, ↓wRlm, ↓ws_Nil, ↓ws_Cons, ↓then_nx, ↓then_rt, ↓ws_Asg, ↓wg_Nm, ↓wg_Tp, ↓wgs_Nil, ↓wgs_Cons, ↓wgSb', ↓ws_Par, ↓aug0, ↓aug1, ↓aug2, ↓aug3, ↓aug4, ↓aug5, ↓aug6, ↓aug7, ↓aug8, ↓aug9, ↓aug10, ↓aug11, ↓aug12, ↓aug13, ↓aug14, ↓aug15, ↓aug16, ↓aug17, ↓wAugS', ↓ws_Ret, ↓ws_RetT, ↓ws_Drop, ↓ws_For, ↓wSq', ↓wRg', ↓rg1, ↓rg2, ↓rg3, ↓rl1, ↓rl2, ↓rl3, ↓wEn', ↓enV, ↓wZp', ↓zpVV, ↓zpVB, ↓g_add, ↓g_addL, ↓g_addT, ↓g_iadd, ↓g_sub, ↓g_mul, ↓g_mulL, ↓g_fdiv, ↓g_mod, ↓g_pow, ↓g_lt, ↓g_le, ↓g_gt, ↓g_ge, ↓g_eqI, ↓g_neI, ↓g_is, ↓g_isnt, ↓g_ixT, ↓g_ixL, ↓g_ixD, ↓gl_abs, ↓gl_max, ↓gl_min, ↓gl_int, ↓gl_intB, ↓gl_gcd, ↓gl_lenL, ↓gl_lenT, ↓gl_tupL, ↓gl_tupT, ↓gl_lstL, ↓gl_lstT, ↓gl_rep, ↓gl_sortD, ↓gl_sortL, ↓ngI, ↓slL, ↓slT, ↓slS, ↓bo, ↓io, ↓av0, ↓av1, ↓itL, ↓itT, ↓it0, ↓it1, ↓it2, ↓itB, ↓rtB, ↓rt_v, ↓g_ninI, ↓g_inI, ↓w_Lc, ↓w_LcM, ↓turn_nx, wipeL_cons, wipeL_nil, ↓sw0, ↓sw1, ↓sw2, ↓gix2, ↓app0, ↓app1, ↓app2, ↓appB, ↓isL0, ↓isL1, ↓isL2, ↓isLB, ↓isLv, ↓at_head, ↓v0, ↓v1, ↓v2, ↓v3, ↓v4, ↓v5, ↓v6, ↓v7, ↓v8, ↓v9, ↓v10, ↓v11, ↓v12, ↓v13, ↓v14, ↓v15, ↓v16, ↓v17, ↓t0, ↓t1, ↓t2, ↓t3, ↓t4, ↓t5, ↓t6, ↓t7, ↓t8, ↓setAll0, ↓setAll1, List.set_cons_zero, List.set_cons_succ, decide_eq_true_eq, Bool.not_eq_true', decide_eq_false_iff_not]
  refine ⟨rfl, w_take hB (by omega) (by omega) fun v o' hB' v0 v1 => ?_⟩
  obtain ⟨x, hx, hm⟩ := mem_at v0 v1
  simp only [↓w_c, ↓w_e2, ↓we1', ↓p_v, ↓pr0, ↓pr1, ↓pr2, ↓pr3, ↓prA, ↓prB, ↓poL, ↓poD, ↓wB', ↓wt_N, ↓wt_An, ↓wt_Or, ↓wt_Ye, ↓w_Bo, ↓w_An, ↓w_Or, ↓w_If, ↓ws_If, ↓wa_Nil, ↓wa_Cons, ↓wTup', ↓wLst', ↓wLstM', ↓w_Dct, ↓w_DctM, ↓w_B, ↓w_Call, ↓wMt', ↓pl_nil, ↓pl_cons, ↓wc_P, ↓wc_M, ↓wSl', ↓wo_No, ↓woS', ↓wRlv, ↓wRlm, ↓ws_Nil, ↓ws_Cons, ↓then_nx, ↓then_rt, ↓ws_Asg, ↓wg_Nm, ↓wg_Tp, ↓wgs_Nil, ↓wgs_Cons, ↓wgSb', ↓ws_Par, ↓aug0, ↓aug1, ↓aug2, ↓aug3, ↓aug4, ↓aug5, ↓aug6, ↓aug7, ↓aug8, ↓aug9, ↓aug10, ↓aug11, ↓aug12, ↓aug13, ↓aug14, ↓aug15, ↓aug16, ↓aug17, ↓wAugS', ↓ws_Ret, ↓ws_RetT, ↓ws_Drop, ↓ws_For, ↓wSq', ↓wRg', ↓rg1, ↓rg2, ↓rg3, ↓rl1, ↓rl2, ↓rl3, ↓wEn', ↓enV, ↓wZp', ↓zpVV, ↓zpVB, ↓g_add, ↓g_addL, ↓g_addT, ↓g_iadd, ↓g_sub, ↓g_mul, ↓g_mulL, ↓g_fdiv, ↓g_mod, ↓g_pow, ↓g_lt, ↓g_le, ↓g_gt, ↓g_ge, ↓g_eqI, ↓g_neI, ↓g_is, ↓g_isnt, ↓g_ixT, ↓g_ixL, ↓g_ixD, ↓gl_abs, ↓gl_max, ↓gl_min, ↓gl_int, ↓gl_intB, ↓gl_gcd, ↓gl_lenL, ↓gl_lenT, ↓gl_tupL, ↓gl_tupT, ↓gl_lstL, ↓gl_lstT, ↓gl_rep, ↓gl_sortD, ↓gl_sortL, ↓ngI, ↓slL, ↓slT, ↓slS, ↓bo, ↓io, ↓av0, ↓av1, ↓itL, ↓itT, ↓it0, ↓it1, ↓it2, ↓itB, ↓rtB, ↓rt_v, ↓g_ninI, ↓g_inI, ↓w_Lc, ↓w_LcM, ↓turn_nx, wipeL_cons, wipeL_nil, ↓sw0, ↓sw1, ↓sw2, ↓gix2, ↓app0, ↓app1, ↓app2, ↓appB, ↓isL0, ↓isL1, ↓isL2, ↓isLB, ↓isLv, ↓at_head, ↓v0, ↓v1, ↓v2, ↓v3, ↓v4, ↓v5, ↓v6, ↓v7, ↓v8, ↓v9, ↓v10, ↓v11, ↓v12, ↓v13, ↓v14, ↓v15, ↓v16, ↓v17, ↓t0, ↓t1, ↓t2, ↓t3, ↓t4, ↓t5, ↓t6, ↓t7, ↓t8, ↓setAll0, ↓setAll1, List.set_cons_zero, List.set_cons_succ, decide_eq_true_eq, Bool.not_eq_true', decide_eq_false_iff_not]
  exact (at_of hx).mpr (end1 (k x o' hm hB'))
end K61

namespace K61
open PySem PySem.Spec PyProof.Rows L2 Dn
theorem w_someI {R : Sto} {o : SO} (is : List Int) {Q : RV → Sto → Prop} (hB : BagO o) (h1 : is ≠ []) (h2 : is.length ≤ 1000000) (k : ∀ i o', i ∈ is → BagO o' → Q (.v (.int i)) (o' :: R)) : WC c__law_some [.ref 0, .v (.lst (is.map PV.int))] (o :: R) Q :=
  w_some hB (by simpa using h1) (by simpa using h2) fun x o' hx hB' => by
    obtain ⟨i, hi, rfl⟩ := List.mem_map.mp hx
    exact k i o' hi hB'
/-- the bounds of a drawn show -/
structure Bnd where
  (sp nr wd ck fl wy g h d : Int)
def Bnd.v (b : Bnd) : PV := .tup [.int b.sp, .int b.nr, .int b.wd, .int b.ck, .int b.fl, .int b.wy, .int b.g, .int b.h, .int b.d]
structure Bnd.Ok (b : Bnd) : Prop where
  sp : b.sp ∈ [(6 : Int), 4, 10, 13, 20]
  nr : 1 ≤ b.nr ∧ b.nr ≤ 14
  wd : b.wd = 0 ∨ b.wd = 1
  ck : 0 ≤ b.ck ∧ b.ck ≤ 2
  fl : 0 ≤ b.fl ∧ b.fl ≤ 6
  wy : ∃ w ∈ [(8 : Int), 30, 12, 8, 20, 8, 3], b.wy = b.sp * w
  g : 1 ≤ b.g ∧ b.g ≤ 3
  h : 0 ≤ b.h ∧ b.h ≤ 2
  d : 1 ≤ b.d ∧ b.d ≤ 3
theorem w_bounds {R : Sto} {o : SO} {Q : RV → Sto → Prop} (hB : BagO o) (k : ∀ (b : Bnd) o', b.Ok → BagO o' → Q (.v b.v) (o' :: R)) : WC c__law_show_bounds [.ref 0] (o :: R) Q := by
  refine wc_d rfl ?_
  unfold m__law_show_bounds d__law_show_bounds_1
  show W _ [some (.ref 0), none, none, none, none, none, none, none] _ _
  simp only [↓w_c, ↓w_e2, ↓we1', ↓p_v, ↓pr0, ↓pr1, ↓pr2, ↓pr3, ↓prA, ↓prB, ↓poL, ↓poD, ↓wB', ↓wt_N, ↓wt_An, ↓wt_Or, ↓wt_Ye, ↓w_Bo, ↓w_An, ↓w_Or, ↓w_If, ↓ws_If, ↓wa_Nil, ↓wa_Cons, ↓wTup', ↓wLst', ↓wLstM', ↓w_Dct, ↓w_DctM, ↓w_B, ↓w_Call, ↓wMt', ↓pl_nil, ↓pl_cons, ↓wc_P, ↓wc_M, ↓wSl', ↓wo_No, ↓woS', ↓wRlv, ↓wRlm, ↓ws_Nil, ↓ws_Cons, ↓then_nx, ↓then_rt, ↓ws_Asg, ↓wg_Nm, ↓wg_Tp, ↓wgs_Nil, ↓wgs_Cons, ↓wgSb', ↓ws_Par, ↓aug0, ↓aug1, ↓aug2, ↓aug3, ↓aug4, ↓aug5, ↓aug6, ↓aug7, ↓aug8, ↓aug9, ↓aug10, ↓aug11, ↓aug12, ↓aug13, ↓aug14, ↓aug15, ↓aug16, ↓aug17, ↓wAugS', ↓ws_Ret, ↓ws_RetT, ↓ws_Drop, ↓ws_For, ↓wSq', ↓wRg', ↓rg1, ↓rg2, ↓rg3, ↓rl1, ↓rl2, ↓rl3, ↓wEn', ↓enV, ↓wZp', ↓zpVV, ↓zpVB, ↓g_add, ↓g_addL, ↓g_addT, ↓g_iadd, ↓g_sub, ↓g_mul, ↓g_mulL, ↓g_fdiv, ↓g_mod, ↓g_pow, ↓g_lt, ↓g_le, ↓g_gt, ↓g_ge, ↓g_eqI, ↓g_neI, ↓g_is, ↓g_isnt, ↓g_ixT, ↓g_ixL, ↓g_ixD, ↓gl_abs, ↓gl_max, ↓gl_min, ↓gl_int, ↓gl_intB, ↓gl_gcd, ↓gl_lenL, ↓gl_lenT, ↓gl_tupL, ↓gl_tupT, ↓gl_lstL, ↓gl_lstT, ↓gl_rep, ↓gl_sortD, ↓gl_sortL, ↓ngI, ↓slL, ↓slT, ↓slS, ↓bo, ↓io, ↓av0, ↓av1, ↓itL, ↓itT, ↓it0, ↓it1, ↓it2, ↓itB, ↓rtB, ↓rt_v, ↓g_ninI, ↓g_inI, ↓w_Lc, ↓w_LcM, ↓turn_nx, wipeL_cons, wipeL_nil, ↓sw0, ↓sw1, ↓sw2, ↓gix2, ↓app0, ↓app1, ↓app2, ↓appB, ↓isL0, ↓isL1, ↓isL2, ↓isLB, ↓isLv, ↓at_head, ↓v0, ↓v1, ↓v2, ↓v3, ↓v4, ↓v5, ↓v6, ↓v7, ↓v8, ↓v9, ↓v10, ↓v11, ↓v12, ↓v13, ↓v14, ↓v15, ↓v16, ↓v17, ↓t0, ↓t1, ↓t2, ↓t3, ↓t4, ↓t5, ↓t6, ↓t7, ↓t8, ↓setAll0, ↓setAll1, List.set_cons_zero, List.set_cons_succ, decide_eq_true_eq, Bool.not_eq_true', decide_eq_false_iff_not]
  refine ⟨by decide, rfl, w_someI [6, 4, 10, 13, 20] hB (by decide) (by decide) fun sp o1 hsp hB1 => ?_⟩
  have hsp' : 4 ≤ sp ∧ sp ≤ 20 := by
    simp only [List.mem_cons, List.not_mem_nil, or_false] at hsp
    omega
  have wind : ∀ (wd : Int) o2, (wd = 0 ∨ wd = 1) → BagO o2 → W d__law_show_bounds_2 [some (.ref 0), some (.v (.int sp)), some (.v (.int wd)), none, none, none, none, none] (o2 :: R) (RT (o :: R).length Q) := by
    intro wd o2 hwd hB2
    unfold d__law_show_bounds_2 d__law_show_bounds_3 d__law_show_bounds_4 d__law_show_bounds_5 d__law_show_bounds_6
    simp only [↓w_c, ↓w_e2, ↓we1', ↓p_v, ↓pr0, ↓pr1, ↓pr2, ↓pr3, ↓prA, ↓prB, ↓poL, ↓poD, ↓wB', ↓wt_N, ↓wt_An, ↓wt_Or, ↓wt_Ye, ↓w_Bo, ↓w_An, ↓w_Or, ↓w_If, ↓ws_If, ↓wa_Nil, ↓wa_Cons, ↓wTup', ↓wLst', ↓wLstM', ↓w_Dct, ↓w_DctM, ↓w_B, ↓w_Call, ↓wMt', ↓pl_nil, ↓pl_cons, ↓wc_P, ↓wc_M, ↓wSl', ↓wo_No, ↓woS', ↓wRlv, ↓wRlm, ↓ws_Nil, ↓ws_Cons, ↓then_nx, ↓then_rt, ↓ws_Asg, ↓wg_Nm, ↓wg_Tp, ↓wgs_Nil, ↓wgs_Cons, ↓wgSb', ↓ws_Par, ↓aug0, ↓aug1, ↓aug2, ↓aug3, ↓aug4, ↓aug5, ↓aug6, ↓aug7, ↓aug8, ↓aug9, ↓aug10, ↓aug11, ↓aug12, ↓aug13, ↓aug14, ↓aug15, ↓aug16, ↓aug17, ↓wAugS', ↓ws_Ret, ↓ws_RetT, ↓ws_Drop, ↓ws_For, ↓wSq', ↓wRg', ↓rg1, ↓rg2, ↓rg3, ↓rl1, ↓rl2, ↓rl3, ↓wEn', ↓enV, ↓wZp', ↓zpVV, ↓zpVB, ↓g_add, ↓g_addL, ↓g_addT, ↓g_iadd, ↓g_sub, ↓g_mul, ↓g_mulL, ↓g_fdiv, ↓g_mod, ↓g_pow, ↓g_lt, ↓g_le, ↓g_gt, ↓g_ge, ↓g_eqI, ↓g_neI, ↓g_is, ↓g_isnt, ↓g_ixT, ↓g_ixL, ↓g_ixD, ↓gl_abs, ↓gl_max, ↓gl_min, ↓gl_int, ↓gl_intB, ↓gl_gcd, ↓gl_lenL, ↓gl_lenT, ↓gl_tupL, ↓gl_tupT, ↓gl_lstL, ↓gl_lstT, ↓gl_rep, ↓gl_sortD, ↓gl_sortL, ↓ngI, ↓slL, ↓slT, ↓slS, ↓bo, ↓io, ↓av0, ↓av1, ↓itL, ↓itT, ↓it0, ↓it1, ↓it2, ↓itB, ↓rtB, ↓rt_v, ↓g_ninI, ↓g_inI, ↓w_Lc, ↓w_LcM, ↓turn_nx, wipeL_cons, wipeL_nil, ↓sw0, ↓sw1, ↓sw2, ↓gix2, ↓app0, ↓app1, ↓app2, ↓appB, ↓isL0, ↓isL1, ↓isL2, ↓isLB, ↓isLv, ↓at_head, ↓v0, ↓v1, ↓v2, ↓v3, ↓v4, ↓v5, ↓v6, ↓v7, ↓v8, ↓v9, ↓v10, ↓v11, ↓v12, ↓v13, ↓v14, ↓v15, ↓v16, ↓v17, ↓t0, ↓t1, ↓t2, ↓t3, ↓t4, ↓t5, ↓t6, ↓t7, ↓t8, ↓setAll0, ↓setAll1, List.set_cons_zero, List.set_cons_succ, decide_eq_true_eq, Bool.not_eq_true', decide_eq_false_iff_not]
    refine ⟨mul_r (by decide) (by decide), div_ok (by decide) (by decide), mul_l (by decide) (by decide), ?_⟩
    generalize htop : (if sp * 7 / 10 - 2 * wd > 1 then sp * 7 / 10 - 2 * wd else 1) = top
    have ht : 1 ≤ top ∧ top ≤ 14 := by
      rw [← htop]
      split <;> omega
    refine ⟨rfl, w_take hB2 ht.1 (by omega) fun v o3 hB3 v0 v1 => ?_⟩
    simp only [↓w_c, ↓w_e2, ↓we1', ↓p_v, ↓pr0, ↓pr1, ↓pr2, ↓pr3, ↓prA, ↓prB, ↓poL, ↓poD, ↓wB', ↓wt_N, ↓wt_An, ↓wt_Or, ↓wt_Ye, ↓w_Bo, ↓w_An, ↓w_Or, ↓w_If, ↓ws_If, ↓wa_Nil, ↓wa_Cons, ↓wTup', ↓wLst', ↓wLstM', ↓w_Dct, ↓w_DctM, ↓w_B, ↓w_Call, ↓wMt', ↓pl_nil, ↓pl_cons, ↓wc_P, ↓wc_M, ↓wSl', ↓wo_No, ↓woS', ↓wRlv, ↓wRlm, ↓ws_Nil, ↓ws_Cons, ↓then_nx, ↓then_rt, ↓ws_Asg, ↓wg_Nm, ↓wg_Tp, ↓wgs_Nil, ↓wgs_Cons, ↓wgSb', ↓ws_Par, ↓aug0, ↓aug1, ↓aug2, ↓aug3, ↓aug4, ↓aug5, ↓aug6, ↓aug7, ↓aug8, ↓aug9, ↓aug10, ↓aug11, ↓aug12, ↓aug13, ↓aug14, ↓aug15, ↓aug16, ↓aug17, ↓wAugS', ↓ws_Ret, ↓ws_RetT, ↓ws_Drop, ↓ws_For, ↓wSq', ↓wRg', ↓rg1, ↓rg2, ↓rg3, ↓rl1, ↓rl2, ↓rl3, ↓wEn', ↓enV, ↓wZp', ↓zpVV, ↓zpVB, ↓g_add, ↓g_addL, ↓g_addT, ↓g_iadd, ↓g_sub, ↓g_mul, ↓g_mulL, ↓g_fdiv, ↓g_mod, ↓g_pow, ↓g_lt, ↓g_le, ↓g_gt, ↓g_ge, ↓g_eqI, ↓g_neI, ↓g_is, ↓g_isnt, ↓g_ixT, ↓g_ixL, ↓g_ixD, ↓gl_abs, ↓gl_max, ↓gl_min, ↓gl_int, ↓gl_intB, ↓gl_gcd, ↓gl_lenL, ↓gl_lenT, ↓gl_tupL, ↓gl_tupT, ↓gl_lstL, ↓gl_lstT, ↓gl_rep, ↓gl_sortD, ↓gl_sortL, ↓ngI, ↓slL, ↓slT, ↓slS, ↓bo, ↓io, ↓av0, ↓av1, ↓itL, ↓itT, ↓it0, ↓it1, ↓it2, ↓itB, ↓rtB, ↓rt_v, ↓g_ninI, ↓g_inI, ↓w_Lc, ↓w_LcM, ↓turn_nx, wipeL_cons, wipeL_nil, ↓sw0, ↓sw1, ↓sw2, ↓gix2, ↓app0, ↓app1, ↓app2, ↓appB, ↓isL0, ↓isL1, ↓isL2, ↓isLB, ↓isLv, ↓at_head, ↓v0, ↓v1, ↓v2, ↓v3, ↓v4, ↓v5, ↓v6, ↓v7, ↓v8, ↓v9, ↓v10, ↓v11, ↓v12, ↓v13, ↓v14, ↓v15, ↓v16, ↓v17, ↓t0, ↓t1, ↓t2, ↓t3, ↓t4, ↓t5, ↓t6, ↓t7, ↓t8, ↓setAll0, ↓setAll1, List.set_cons_zero, List.set_cons_succ, decide_eq_true_eq, Bool.not_eq_true', decide_eq_false_iff_not]
    refine ⟨rfl, rfl, w_someI [top, 1 + v] hB3 (by simp) (by simp) fun nr o4 hnr hB4 => ?_⟩
    have hnr' : 1 ≤ nr ∧ nr ≤ 14 := by
      simp only [List.mem_cons, List.not_mem_nil, or_false] at hnr
      omega
    simp only [↓w_c, ↓w_e2, ↓we1', ↓p_v, ↓pr0, ↓pr1, ↓pr2, ↓pr3, ↓prA, ↓prB, ↓poL, ↓poD, ↓wB', ↓wt_N, ↓wt_An, ↓wt_Or, ↓wt_Ye, ↓w_Bo, ↓w_An, ↓w_Or, ↓w_If, ↓ws_If, ↓wa_Nil, ↓wa_Cons, ↓wTup', ↓wLst', ↓wLstM', ↓w_Dct, ↓w_DctM, ↓w_B, ↓w_Call, ↓wMt', ↓pl_nil, ↓pl_cons, ↓wc_P, ↓wc_M, ↓wSl', ↓wo_No, ↓woS', ↓wRlv, ↓wRlm, ↓ws_Nil, ↓ws_Cons, ↓then_nx, ↓then_rt, ↓ws_Asg, ↓wg_Nm, ↓wg_Tp, ↓wgs_Nil, ↓wgs_Cons, ↓wgSb', ↓ws_Par, ↓aug0, ↓aug1, ↓aug2, ↓aug3, ↓aug4, ↓aug5, ↓aug6, ↓aug7, ↓aug8, ↓aug9, ↓aug10, ↓aug11, ↓aug12, ↓aug13, ↓aug14, ↓aug15, ↓aug16, ↓aug17, ↓wAugS', ↓ws_Ret, ↓ws_RetT, ↓ws_Drop, ↓ws_For, ↓wSq', ↓wRg', ↓rg1, ↓rg2, ↓rg3, ↓rl1, ↓rl2, ↓rl3, ↓wEn', ↓enV, ↓wZp', ↓zpVV, ↓zpVB, ↓g_add, ↓g_addL, ↓g_addT, ↓g_iadd, ↓g_sub, ↓g_mul, ↓g_mulL, ↓g_fdiv, ↓g_mod, ↓g_pow, ↓g_lt, ↓g_le, ↓g_gt, ↓g_ge, ↓g_eqI, ↓g_neI, ↓g_is, ↓g_isnt, ↓g_ixT, ↓g_ixL, ↓g_ixD, ↓gl_abs, ↓gl_max, ↓gl_min, ↓gl_int, ↓gl_intB, ↓gl_gcd, ↓gl_lenL, ↓gl_lenT, ↓gl_tupL, ↓gl_tupT, ↓gl_lstL, ↓gl_lstT, ↓gl_rep, ↓gl_sortD, ↓gl_sortL, ↓ngI, ↓slL, ↓slT, ↓slS, ↓bo, ↓io, ↓av0, ↓av1, ↓itL, ↓itT, ↓it0, ↓it1, ↓it2, ↓itB, ↓rtB, ↓rt_v, ↓g_ninI, ↓g_inI, ↓w_Lc, ↓w_LcM, ↓turn_nx, wipeL_cons, wipeL_nil, ↓sw0, ↓sw1, ↓sw2, ↓gix2, ↓app0, ↓app1, ↓app2, ↓appB, ↓isL0, ↓isL1, ↓isL2, ↓isLB, ↓isLv, ↓at_head, ↓v0, ↓v1, ↓v2, ↓v3, ↓v4, ↓v5, ↓v6, ↓v7, ↓v8, ↓v9, ↓v10, ↓v11, ↓v12, ↓v13, ↓v14, ↓v15, ↓v16, ↓v17, ↓t0, ↓t1, ↓t2, ↓t3, ↓t4, ↓t5, ↓t6, ↓t7, ↓t8, ↓setAll0, ↓setAll1, List.set_cons_zero, List.set_cons_succ, decide_eq_true_eq, Bool.not_eq_true', decide_eq_false_iff_not]
    refine ⟨by decide, rfl, w_someI [0, 1, 2] hB4 (by decide) (by decide) fun ck o5 hck hB5 => ?_⟩
    simp only [↓w_c, ↓w_e2, ↓we1', ↓p_v, ↓pr0, ↓pr1, ↓pr2, ↓pr3, ↓prA, ↓prB, ↓poL, ↓poD, ↓wB', ↓wt_N, ↓wt_An, ↓wt_Or, ↓wt_Ye, ↓w_Bo, ↓w_An, ↓w_Or, ↓w_If, ↓ws_If, ↓wa_Nil, ↓wa_Cons, ↓wTup', ↓wLst', ↓wLstM', ↓w_Dct, ↓w_DctM, ↓w_B, ↓w_Call, ↓wMt', ↓pl_nil, ↓pl_cons, ↓wc_P, ↓wc_M, ↓wSl', ↓wo_No, ↓woS', ↓wRlv, ↓wRlm, ↓ws_Nil, ↓ws_Cons, ↓then_nx, ↓then_rt, ↓ws_Asg, ↓wg_Nm, ↓wg_Tp, ↓wgs_Nil, ↓wgs_Cons, ↓wgSb', ↓ws_Par, ↓aug0, ↓aug1, ↓aug2, ↓aug3, ↓aug4, ↓aug5, ↓aug6, ↓aug7, ↓aug8, ↓aug9, ↓aug10, ↓aug11, ↓aug12, ↓aug13, ↓aug14, ↓aug15, ↓aug16, ↓aug17, ↓wAugS', ↓ws_Ret, ↓ws_RetT, ↓ws_Drop, ↓ws_For, ↓wSq', ↓wRg', ↓rg1, ↓rg2, ↓rg3, ↓rl1, ↓rl2, ↓rl3, ↓wEn', ↓enV, ↓wZp', ↓zpVV, ↓zpVB, ↓g_add, ↓g_addL, ↓g_addT, ↓g_iadd, ↓g_sub, ↓g_mul, ↓g_mulL, ↓g_fdiv, ↓g_mod, ↓g_pow, ↓g_lt, ↓g_le, ↓g_gt, ↓g_ge, ↓g_eqI, ↓g_neI, ↓g_is, ↓g_isnt, ↓g_ixT, ↓g_ixL, ↓g_ixD, ↓gl_abs, ↓gl_max, ↓gl_min, ↓gl_int, ↓gl_intB, ↓gl_gcd, ↓gl_lenL, ↓gl_lenT, ↓gl_tupL, ↓gl_tupT, ↓gl_lstL, ↓gl_lstT, ↓gl_rep, ↓gl_sortD, ↓gl_sortL, ↓ngI, ↓slL, ↓slT, ↓slS, ↓bo, ↓io, ↓av0, ↓av1, ↓itL, ↓itT, ↓it0, ↓it1, ↓it2, ↓itB, ↓rtB, ↓rt_v, ↓g_ninI, ↓g_inI, ↓w_Lc, ↓w_LcM, ↓turn_nx, wipeL_cons, wipeL_nil, ↓sw0, ↓sw1, ↓sw2, ↓gix2, ↓app0, ↓app1, ↓app2, ↓appB, ↓isL0, ↓isL1, ↓isL2, ↓isLB, ↓isLv, ↓at_head, ↓v0, ↓v1, ↓v2, ↓v3, ↓v4, ↓v5, ↓v6, ↓v7, ↓v8, ↓v9, ↓v10, ↓v11, ↓v12, ↓v13, ↓v14, ↓v15, ↓v16, ↓v17, ↓t0, ↓t1, ↓t2, ↓t3, ↓t4, ↓t5, ↓t6, ↓t7, ↓t8, ↓setAll0, ↓setAll1, List.set_cons_zero, List.set_cons_succ, decide_eq_true_eq, Bool.not_eq_true', decide_eq_false_iff_not]
    refine ⟨by decide, rfl, w_someI [0, 1, 3, 6] hB5 (by decide) (by decide) fun fl o6 hfl hB6 => ?_⟩
    simp only [↓w_c, ↓w_e2, ↓we1', ↓p_v, ↓pr0, ↓pr1, ↓pr2, ↓pr3, ↓prA, ↓prB, ↓poL, ↓poD, ↓wB', ↓wt_N, ↓wt_An, ↓wt_Or, ↓wt_Ye, ↓w_Bo, ↓w_An, ↓w_Or, ↓w_If, ↓ws_If, ↓wa_Nil, ↓wa_Cons, ↓wTup', ↓wLst', ↓wLstM', ↓w_Dct, ↓w_DctM, ↓w_B, ↓w_Call, ↓wMt', ↓pl_nil, ↓pl_cons, ↓wc_P, ↓wc_M, ↓wSl', ↓wo_No, ↓woS', ↓wRlv, ↓wRlm, ↓ws_Nil, ↓ws_Cons, ↓then_nx, ↓then_rt, ↓ws_Asg, ↓wg_Nm, ↓wg_Tp, ↓wgs_Nil, ↓wgs_Cons, ↓wgSb', ↓ws_Par, ↓aug0, ↓aug1, ↓aug2, ↓aug3, ↓aug4, ↓aug5, ↓aug6, ↓aug7, ↓aug8, ↓aug9, ↓aug10, ↓aug11, ↓aug12, ↓aug13, ↓aug14, ↓aug15, ↓aug16, ↓aug17, ↓wAugS', ↓ws_Ret, ↓ws_RetT, ↓ws_Drop, ↓ws_For, ↓wSq', ↓wRg', ↓rg1, ↓rg2, ↓rg3, ↓rl1, ↓rl2, ↓rl3, ↓wEn', ↓enV, ↓wZp', ↓zpVV, ↓zpVB, ↓g_add, ↓g_addL, ↓g_addT, ↓g_iadd, ↓g_sub, ↓g_mul, ↓g_mulL, ↓g_fdiv, ↓g_mod, ↓g_pow, ↓g_lt, ↓g_le, ↓g_gt, ↓g_ge, ↓g_eqI, ↓g_neI, ↓g_is, ↓g_isnt, ↓g_ixT, ↓g_ixL, ↓g_ixD, ↓gl_abs, ↓gl_max, ↓gl_min, ↓gl_int, ↓gl_intB, ↓gl_gcd, ↓gl_lenL, ↓gl_lenT, ↓gl_tupL, ↓gl_tupT, ↓gl_lstL, ↓gl_lstT, ↓gl_rep, ↓gl_sortD, ↓gl_sortL, ↓ngI, ↓slL, ↓slT, ↓slS, ↓bo, ↓io, ↓av0, ↓av1, ↓itL, ↓itT, ↓it0, ↓it1, ↓it2, ↓itB, ↓rtB, ↓rt_v, ↓g_ninI, ↓g_inI, ↓w_Lc, ↓w_LcM, ↓turn_nx, wipeL_cons, wipeL_nil, ↓sw0, ↓sw1, ↓sw2, ↓gix2, ↓app0, ↓app1, ↓app2, ↓appB, ↓isL0, ↓isL1, ↓isL2, ↓isLB, ↓isLv, ↓at_head, ↓v0, ↓v1, ↓v2, ↓v3, ↓v4, ↓v5, ↓v6, ↓v7, ↓v8, ↓v9, ↓v10, ↓v11, ↓v12, ↓v13, ↓v14, ↓v15, ↓v16, ↓v17, ↓t0, ↓t1, ↓t2, ↓t3, ↓t4, ↓t5, ↓t6, ↓t7, ↓t8, ↓setAll0, ↓setAll1, List.set_cons_zero, List.set_cons_succ, decide_eq_true_eq, Bool.not_eq_true', decide_eq_false_iff_not]
    refine ⟨⟨rfl, by decide⟩, by decide, rfl, w_someI [8, 30, 12, 8, 20, 8, 3] hB6 (by decide) (by decide) fun wy o7 hwy hB7 => ?_⟩
    simp only [↓w_c, ↓w_e2, ↓we1', ↓p_v, ↓pr0, ↓pr1, ↓pr2, ↓pr3, ↓prA, ↓prB, ↓poL, ↓poD, ↓wB', ↓wt_N, ↓wt_An, ↓wt_Or, ↓wt_Ye, ↓w_Bo, ↓w_An, ↓w_Or, ↓w_If, ↓ws_If, ↓wa_Nil, ↓wa_Cons, ↓wTup', ↓wLst', ↓wLstM', ↓w_Dct, ↓w_DctM, ↓w_B, ↓w_Call, ↓wMt', ↓pl_nil, ↓pl_cons, ↓wc_P, ↓wc_M, ↓wSl', ↓wo_No, ↓woS', ↓wRlv, ↓wRlm, ↓ws_Nil, ↓ws_Cons, ↓then_nx, ↓then_rt, ↓ws_Asg, ↓wg_Nm, ↓wg_Tp, ↓wgs_Nil, ↓wgs_Cons, ↓wgSb', ↓ws_Par, ↓aug0, ↓aug1, ↓aug2, ↓aug3, ↓aug4, ↓aug5, ↓aug6, ↓aug7, ↓aug8, ↓aug9, ↓aug10, ↓aug11, ↓aug12, ↓aug13, ↓aug14, ↓aug15, ↓aug16, ↓aug17, ↓wAugS', ↓ws_Ret, ↓ws_RetT, ↓ws_Drop, ↓ws_For, ↓wSq', ↓wRg', ↓rg1, ↓rg2, ↓rg3, ↓rl1, ↓rl2, ↓rl3, ↓wEn', ↓enV, ↓wZp', ↓zpVV, ↓zpVB, ↓g_add, ↓g_addL, ↓g_addT, ↓g_iadd, ↓g_sub, ↓g_mul, ↓g_mulL, ↓g_fdiv, ↓g_mod, ↓g_pow, ↓g_lt, ↓g_le, ↓g_gt, ↓g_ge, ↓g_eqI, ↓g_neI, ↓g_is, ↓g_isnt, ↓g_ixT, ↓g_ixL, ↓g_ixD, ↓gl_abs, ↓gl_max, ↓gl_min, ↓gl_int, ↓gl_intB, ↓gl_gcd, ↓gl_lenL, ↓gl_lenT, ↓gl_tupL, ↓gl_tupT, ↓gl_lstL, ↓gl_lstT, ↓gl_rep, ↓gl_sortD, ↓gl_sortL, ↓ngI, ↓slL, ↓slT, ↓slS, ↓bo, ↓io, ↓av0, ↓av1, ↓itL, ↓itT, ↓it0, ↓it1, ↓it2, ↓itB, ↓rtB, ↓rt_v, ↓g_ninI, ↓g_inI, ↓w_Lc, ↓w_LcM, ↓turn_nx, wipeL_cons, wipeL_nil, ↓sw0, ↓sw1, ↓sw2, ↓gix2, ↓app0, ↓app1, ↓app2, ↓appB, ↓isL0, ↓isL1, ↓isL2, ↓isLB, ↓isLv, ↓at_head, ↓v0, ↓v1, ↓v2, ↓v3, ↓v4, ↓v5, ↓v6, ↓v7, ↓v8, ↓v9, ↓v10, ↓v11, ↓v12, ↓v13, ↓v14, ↓v15, ↓v16, ↓v17, ↓t0, ↓t1, ↓t2, ↓t3, ↓t4, ↓t5, ↓t6, ↓t7, ↓t8, ↓setAll0, ↓setAll1, List.set_cons_zero, List.set_cons_succ, decide_eq_true_eq, Bool.not_eq_true', decide_eq_false_iff_not]
    refine ⟨mul_l (by omega) (by omega), rfl, w_take hB7 (by decide) (by decide) fun g o8 hB8 g0 g1 => ?_⟩
    simp only [↓w_c, ↓w_e2, ↓we1', ↓p_v, ↓pr0, ↓pr1, ↓pr2, ↓pr3, ↓prA, ↓prB, ↓poL, ↓poD, ↓wB', ↓wt_N, ↓wt_An, ↓wt_Or, ↓wt_Ye, ↓w_Bo, ↓w_An, ↓w_Or, ↓w_If, ↓ws_If, ↓wa_Nil, ↓wa_Cons, ↓wTup', ↓wLst', ↓wLstM', ↓w_Dct, ↓w_DctM, ↓w_B, ↓w_Call, ↓wMt', ↓pl_nil, ↓pl_cons, ↓wc_P, ↓wc_M, ↓wSl', ↓wo_No, ↓woS', ↓wRlv, ↓wRlm, ↓ws_Nil, ↓ws_Cons, ↓then_nx, ↓then_rt, ↓ws_Asg, ↓wg_Nm, ↓wg_Tp, ↓wgs_Nil, ↓wgs_Cons, ↓wgSb', ↓ws_Par, ↓aug0, ↓aug1, ↓aug2, ↓aug3, ↓aug4, ↓aug5, ↓aug6, ↓aug7, ↓aug8, ↓aug9, ↓aug10, ↓aug11, ↓aug12, ↓aug13, ↓aug14, ↓aug15, ↓aug16, ↓aug17, ↓wAugS', ↓ws_Ret, ↓ws_RetT, ↓ws_Drop, ↓ws_For, ↓wSq', ↓wRg', ↓rg1, ↓rg2, ↓rg3, ↓rl1, ↓rl2, ↓rl3, ↓wEn', ↓enV, ↓wZp', ↓zpVV, ↓zpVB, ↓g_add, ↓g_addL, ↓g_addT, ↓g_iadd, ↓g_sub, ↓g_mul, ↓g_mulL, ↓g_fdiv, ↓g_mod, ↓g_pow, ↓g_lt, ↓g_le, ↓g_gt, ↓g_ge, ↓g_eqI, ↓g_neI, ↓g_is, ↓g_isnt, ↓g_ixT, ↓g_ixL, ↓g_ixD, ↓gl_abs, ↓gl_max, ↓gl_min, ↓gl_int, ↓gl_intB, ↓gl_gcd, ↓gl_lenL, ↓gl_lenT, ↓gl_tupL, ↓gl_tupT, ↓gl_lstL, ↓gl_lstT, ↓gl_rep, ↓gl_sortD, ↓gl_sortL, ↓ngI, ↓slL, ↓slT, ↓slS, ↓bo, ↓io, ↓av0, ↓av1, ↓itL, ↓itT, ↓it0, ↓it1, ↓it2, ↓itB, ↓rtB, ↓rt_v, ↓g_ninI, ↓g_inI, ↓w_Lc, ↓w_LcM, ↓turn_nx, wipeL_cons, wipeL_nil, ↓sw0, ↓sw1, ↓sw2, ↓gix2, ↓app0, ↓app1, ↓app2, ↓appB, ↓isL0, ↓isL1, ↓isL2, ↓isLB, ↓isLv, ↓at_head, ↓v0, ↓v1, ↓v2, ↓v3, ↓v4, ↓v5, ↓v6, ↓v7, ↓v8, ↓v9, ↓v10, ↓v11, ↓v12, ↓v13, ↓v14, ↓v15, ↓v16, ↓v17, ↓t0, ↓t1, ↓t2, ↓t3, ↓t4, ↓t5, ↓t6, ↓t7, ↓t8, ↓setAll0, ↓setAll1, List.set_cons_zero, List.set_cons_succ, decide_eq_true_eq, Bool.not_eq_true', decide_eq_false_iff_not]
    refine ⟨rfl, w_take hB8 (by decide) (by decide) fun h o9 hB9 h0 h1 => ?_⟩
    simp only [↓w_c, ↓w_e2, ↓we1', ↓p_v, ↓pr0, ↓pr1, ↓pr2, ↓pr3, ↓prA, ↓prB, ↓poL, ↓poD, ↓wB', ↓wt_N, ↓wt_An, ↓wt_Or, ↓wt_Ye, ↓w_Bo, ↓w_An, ↓w_Or, ↓w_If, ↓ws_If, ↓wa_Nil, ↓wa_Cons, ↓wTup', ↓wLst', ↓wLstM', ↓w_Dct, ↓w_DctM, ↓w_B, ↓w_Call, ↓wMt', ↓pl_nil, ↓pl_cons, ↓wc_P, ↓wc_M, ↓wSl', ↓wo_No, ↓woS', ↓wRlv, ↓wRlm, ↓ws_Nil, ↓ws_Cons, ↓then_nx, ↓then_rt, ↓ws_Asg, ↓wg_Nm, ↓wg_Tp, ↓wgs_Nil, ↓wgs_Cons, ↓wgSb', ↓ws_Par, ↓aug0, ↓aug1, ↓aug2, ↓aug3, ↓aug4, ↓aug5, ↓aug6, ↓aug7, ↓aug8, ↓aug9, ↓aug10, ↓aug11, ↓aug12, ↓aug13, ↓aug14, ↓aug15, ↓aug16, ↓aug17, ↓wAugS', ↓ws_Ret, ↓ws_RetT, ↓ws_Drop, ↓ws_For, ↓wSq', ↓wRg', ↓rg1, ↓rg2, ↓rg3, ↓rl1, ↓rl2, ↓rl3, ↓wEn', ↓enV, ↓wZp', ↓zpVV, ↓zpVB, ↓g_add, ↓g_addL, ↓g_addT, ↓g_iadd, ↓g_sub, ↓g_mul, ↓g_mulL, ↓g_fdiv, ↓g_mod, ↓g_pow, ↓g_lt, ↓g_le, ↓g_gt, ↓g_ge, ↓g_eqI, ↓g_neI, ↓g_is, ↓g_isnt, ↓g_ixT, ↓g_ixL, ↓g_ixD, ↓gl_abs, ↓gl_max, ↓gl_min, ↓gl_int, ↓gl_intB, ↓gl_gcd, ↓gl_lenL, ↓gl_lenT, ↓gl_tupL, ↓gl_tupT, ↓gl_lstL, ↓gl_lstT, ↓gl_rep, ↓gl_sortD, ↓gl_sortL, ↓ngI, ↓slL, ↓slT, ↓slS, ↓bo, ↓io, ↓av0, ↓av1, ↓itL, ↓itT, ↓it0, ↓it1, ↓it2, ↓itB, ↓rtB, ↓rt_v, ↓g_ninI, ↓g_inI, ↓w_Lc, ↓w_LcM, ↓turn_nx, wipeL_cons, wipeL_nil, ↓sw0, ↓sw1, ↓sw2, ↓gix2, ↓app0, ↓app1, ↓app2, ↓appB, ↓isL0, ↓isL1, ↓isL2, ↓isLB, ↓isLv, ↓at_head, ↓v0, ↓v1, ↓v2, ↓v3, ↓v4, ↓v5, ↓v6, ↓v7, ↓v8, ↓v9, ↓v10, ↓v11, ↓v12, ↓v13, ↓v14, ↓v15, ↓v16, ↓v17, ↓t0, ↓t1, ↓t2, ↓t3, ↓t4, ↓t5, ↓t6, ↓t7, ↓t8, ↓setAll0, ↓setAll1, List.set_cons_zero, List.set_cons_succ, decide_eq_true_eq, Bool.not_eq_true', decide_eq_false_iff_not]
    refine ⟨rfl, w_take hB9 (by decide) (by decide) fun d oA hBA d0 d1 => ?_⟩
    simp only [↓w_c, ↓w_e2, ↓we1', ↓p_v, ↓pr0, ↓pr1, ↓pr2, ↓pr3, ↓prA, ↓prB, ↓poL, ↓poD, ↓wB', ↓wt_N, ↓wt_An, ↓wt_Or, ↓wt_Ye, ↓w_Bo, ↓w_An, ↓w_Or, ↓w_If, ↓ws_If, ↓wa_Nil, ↓wa_Cons, ↓wTup', ↓wLst', ↓wLstM', ↓w_Dct, ↓w_DctM, ↓w_B, ↓w_Call, ↓wMt', ↓pl_nil, ↓pl_cons, ↓wc_P, ↓wc_M, ↓wSl', ↓wo_No, ↓woS', ↓wRlv, ↓wRlm, ↓ws_Nil, ↓ws_Cons, ↓then_nx, ↓then_rt, ↓ws_Asg, ↓wg_Nm, ↓wg_Tp, ↓wgs_Nil, ↓wgs_Cons, ↓wgSb', ↓ws_Par, ↓aug0, ↓aug1, ↓aug2, ↓aug3, ↓aug4, ↓aug5, ↓aug6, ↓aug7, ↓aug8, ↓aug9, ↓aug10, ↓aug11, ↓aug12, ↓aug13, ↓aug14, ↓aug15, ↓aug16, ↓aug17, ↓wAugS', ↓ws_Ret, ↓ws_RetT, ↓ws_Drop, ↓ws_For, ↓wSq', ↓wRg', ↓rg1, ↓rg2, ↓rg3, ↓rl1, ↓rl2, ↓rl3, ↓wEn', ↓enV, ↓wZp', ↓zpVV, ↓zpVB, ↓g_add, ↓g_addL, ↓g_addT, ↓g_iadd, ↓g_sub, ↓g_mul, ↓g_mulL, ↓g_fdiv, ↓g_mod, ↓g_pow, ↓g_lt, ↓g_le, ↓g_gt, ↓g_ge, ↓g_eqI, ↓g_neI, ↓g_is, ↓g_isnt, ↓g_ixT, ↓g_ixL, ↓g_ixD, ↓gl_abs, ↓gl_max, ↓gl_min, ↓gl_int, ↓gl_intB, ↓gl_gcd, ↓gl_lenL, ↓gl_lenT, ↓gl_tupL, ↓gl_tupT, ↓gl_lstL, ↓gl_lstT, ↓gl_rep, ↓gl_sortD, ↓gl_sortL, ↓ngI, ↓slL, ↓slT, ↓slS, ↓bo, ↓io, ↓av0, ↓av1, ↓itL, ↓itT, ↓it0, ↓it1, ↓it2, ↓itB, ↓rtB, ↓rt_v, ↓g_ninI, ↓g_inI, ↓w_Lc, ↓w_LcM, ↓turn_nx, wipeL_cons, wipeL_nil, ↓sw0, ↓sw1, ↓sw2, ↓gix2, ↓app0, ↓app1, ↓app2, ↓appB, ↓isL0, ↓isL1, ↓isL2, ↓isLB, ↓isLv, ↓at_head, ↓v0, ↓v1, ↓v2, ↓v3, ↓v4, ↓v5, ↓v6, ↓v7, ↓v8, ↓v9, ↓v10, ↓v11, ↓v12, ↓v13, ↓v14, ↓v15, ↓v16, ↓v17, ↓t0, ↓t1, ↓t2, ↓t3, ↓t4, ↓t5, ↓t6, ↓t7, ↓t8, ↓setAll0, ↓setAll1, List.set_cons_zero, List.set_cons_succ, decide_eq_true_eq, Bool.not_eq_true', decide_eq_false_iff_not]
    refine ⟨rfl, end1 (k ⟨sp, nr, wd, ck, fl, sp * wy, 1 + g, h, 1 + d⟩ oA ⟨hsp, hnr', hwd, ?_, ?_, ⟨wy, hwy, rfl⟩, ⟨by show 1 ≤ 1 + g; omega, by show 1 + g ≤ 3; omega⟩, ⟨h0, by show h ≤ 2; omega⟩, ⟨by show 1 ≤ 1 + d; omega, by show 1 + d ≤ 3; omega⟩⟩ hBA)⟩
    · simp only [List.mem_cons, List.not_mem_nil, or_false] at hck
      show 0 ≤ ck ∧ ck ≤ 2
      omega
    · simp only [List.mem_cons, List.not_mem_nil, or_false] at hfl
      show 0 ≤ fl ∧ fl ≤ 6
      omega
  simp only [↓w_c, ↓w_e2, ↓we1', ↓p_v, ↓pr0, ↓pr1, ↓pr2, ↓pr3, ↓prA, ↓prB, ↓poL, ↓poD, ↓wB', ↓wt_N, ↓wt_An, ↓wt_Or, ↓wt_Ye, ↓w_Bo, ↓w_An, ↓w_Or, ↓w_If, ↓ws_If, ↓wa_Nil, ↓wa_Cons, ↓wTup', ↓wLst', ↓wLstM', ↓w_Dct, ↓w_DctM, ↓w_B, ↓w_Call, ↓wMt', ↓pl_nil, ↓pl_cons, ↓wc_P, ↓wc_M, ↓wSl', ↓wo_No, ↓woS', ↓wRlv, ↓wRlm, ↓ws_Nil, ↓ws_Cons, ↓then_nx, ↓then_rt, ↓ws_Asg, ↓wg_Nm, ↓wg_Tp, ↓wgs_Nil, ↓wgs_Cons, ↓wgSb', ↓ws_Par, ↓aug0, ↓aug1, ↓aug2, ↓aug3, ↓aug4, ↓aug5, ↓aug6, ↓aug7, ↓aug8, ↓aug9, ↓aug10, ↓aug11, ↓aug12, ↓aug13, ↓aug14, ↓aug15, ↓aug16, ↓aug17, ↓wAugS', ↓ws_Ret, ↓ws_RetT, ↓ws_Drop, ↓ws_For, ↓wSq', ↓wRg', ↓rg1, ↓rg2, ↓rg3, ↓rl1, ↓rl2, ↓rl3, ↓wEn', ↓enV, ↓wZp', ↓zpVV, ↓zpVB, ↓g_add, ↓g_addL, ↓g_addT, ↓g_iadd, ↓g_sub, ↓g_mul, ↓g_mulL, ↓g_fdiv, ↓g_mod, ↓g_pow, ↓g_lt, ↓g_le, ↓g_gt, ↓g_ge, ↓g_eqI, ↓g_neI, ↓g_is, ↓g_isnt, ↓g_ixT, ↓g_ixL, ↓g_ixD, ↓gl_abs, ↓gl_max, ↓gl_min, ↓gl_int, ↓gl_intB, ↓gl_gcd, ↓gl_lenL, ↓gl_lenT, ↓gl_tupL, ↓gl_tupT, ↓gl_lstL, ↓gl_lstT, ↓gl_rep, ↓gl_sortD, ↓gl_sortL, ↓ngI, ↓slL, ↓slT, ↓slS, ↓bo, ↓io, ↓av0, ↓av1, ↓itL, ↓itT, ↓it0, ↓it1, ↓it2, ↓itB, ↓rtB, ↓rt_v, ↓g_ninI, ↓g_inI, ↓w_Lc, ↓w_LcM, ↓turn_nx, wipeL_cons, wipeL_nil, ↓sw0, ↓sw1, ↓sw2, ↓gix2, ↓app0, ↓app1, ↓app2, ↓appB, ↓isL0, ↓isL1, ↓isL2, ↓isLB, ↓isLv, ↓at_head, ↓v0, ↓v1, ↓v2, ↓v3, ↓v4, ↓v5, ↓v6, ↓v7, ↓v8, ↓v9, ↓v10, ↓v11, ↓v12, ↓v13, ↓v14, ↓v15, ↓v16, ↓v17, ↓t0, ↓t1, ↓t2, ↓t3, ↓t4, ↓t5, ↓t6, ↓t7, ↓t8, ↓setAll0, ↓setAll1, List.set_cons_zero, List.set_cons_succ, decide_eq_true_eq, Bool.not_eq_true', decide_eq_false_iff_not]
  split
  · refine ⟨by decide, rfl, w_someI [0, 1, 0] hB1 (by decide) (by decide) fun wd o2 hwd hB2 => ?_⟩
    refine wind wd o2 ?_ hB2
    simp only [List.mem_cons, List.not_mem_nil, or_false] at hwd
    omega
  · exact wind 0 o1 (.inl rfl) hB1
end K61

namespace K61
open PySem PySem.Spec PyProof.Rows L2 Dn
/-- the sizes that a drawn show's bounds keep -/
structure Bnd.In (b : Bnd) : Prop where
  sp : 4 ≤ b.sp ∧ b.sp ≤ 20
  nr : 1 ≤ b.nr ∧ b.nr ≤ 14
  wd : 0 ≤ b.wd ∧ b.wd ≤ 1
  ck : 0 ≤ b.ck ∧ b.ck ≤ 2
  fl : 0 ≤ b.fl ∧ b.fl ≤ 6
  wy : 0 ≤ b.wy ∧ b.wy ≤ 600
  g : 1 ≤ b.g ∧ b.g ≤ 3
  h : 0 ≤ b.h ∧ b.h ≤ 2
  d : 1 ≤ b.d ∧ b.d ≤ 3
theorem Bnd.Ok.in_ {b : Bnd} (h : b.Ok) : b.In := by
  have hsp := h.sp
  simp only [List.mem_cons, List.not_mem_nil, or_false] at hsp
  obtain ⟨w, hw, e⟩ := h.wy
  simp only [List.mem_cons, List.not_mem_nil, or_false] at hw
  refine ⟨by omega, h.nr, by have := h.wd; omega, h.ck, h.fl, ?_, h.g, h.h, h.d⟩
  rw [e]
  rcases hsp with q | q | q | q | q <;> rw [q] <;> omega
def Bnd.reach (b : Bnd) : Int := b.nr + 2 * b.wd
def Bnd.lag (b : Bnd) : Int := b.fl + 2 * b.ck
def Bnd.need (b : Bnd) : Int := b.lag + b.ck + 2 * b.g + b.h
theorem w_reach {S : Sto} {Q : RV → Sto → Prop} {b : Bnd} (hb : b.In) (q : Q (.v (.int b.reach)) S) : WC c__law_reach [.v b.v] S Q := by
  refine wc_d rfl ?_
  unfold m__law_reach Bnd.v
  show W _ [some (.v (.tup _))] _ _
  simp only [↓w_c, ↓w_e2, ↓we1', ↓p_v, ↓pr0, ↓pr1, ↓pr2, ↓pr3, ↓prA, ↓prB, ↓poL, ↓poD, ↓wB', ↓wt_N, ↓wt_An, ↓wt_Or, ↓wt_Ye, ↓w_Bo, ↓w_An, ↓w_Or, ↓w_If, ↓ws_If, ↓wa_Nil, ↓wa_Cons, ↓wTup', ↓wLst', ↓wLstM', ↓w_Dct, ↓w_DctM, ↓w_B, ↓w_Call, ↓wMt', ↓pl_nil, ↓pl_cons, ↓wc_P, ↓wc_M, ↓wSl', ↓wo_No, ↓woS', ↓wRlv, ↓wRlm, ↓ws_Nil, ↓ws_Cons, ↓then_nx, ↓then_rt, ↓ws_Asg, ↓wg_Nm, ↓wg_Tp, ↓wgs_Nil, ↓wgs_Cons, ↓wgSb', ↓ws_Par, ↓aug0, ↓aug1, ↓aug2, ↓aug3, ↓aug4, ↓aug5, ↓aug6, ↓aug7, ↓aug8, ↓aug9, ↓aug10, ↓aug11, ↓aug12, ↓aug13, ↓aug14, ↓aug15, ↓aug16, ↓aug17, ↓wAugS', ↓ws_Ret, ↓ws_RetT, ↓ws_Drop, ↓ws_For, ↓wSq', ↓wRg', ↓rg1, ↓rg2, ↓rg3, ↓rl1, ↓rl2, ↓rl3, ↓wEn', ↓enV, ↓wZp', ↓zpVV, ↓zpVB, ↓g_add, ↓g_addL, ↓g_addT, ↓g_iadd, ↓g_sub, ↓g_mul, ↓g_mulL, ↓g_fdiv, ↓g_mod, ↓g_pow, ↓g_lt, ↓g_le, ↓g_gt, ↓g_ge, ↓g_eqI, ↓g_neI, ↓g_is, ↓g_isnt, ↓g_ixT, ↓g_ixL, ↓g_ixD, ↓gl_abs, ↓gl_max, ↓gl_min, ↓gl_int, ↓gl_intB, ↓gl_gcd, ↓gl_lenL, ↓gl_lenT, ↓gl_tupL, ↓gl_tupT, ↓gl_lstL, ↓gl_lstT, ↓gl_rep, ↓gl_sortD, ↓gl_sortL, ↓ngI, ↓slL, ↓slT, ↓slS, ↓bo, ↓io, ↓av0, ↓av1, ↓itL, ↓itT, ↓it0, ↓it1, ↓it2, ↓itB, ↓rtB, ↓rt_v, ↓g_ninI, ↓g_inI, ↓w_Lc, ↓w_LcM, ↓turn_nx, wipeL_cons, wipeL_nil, ↓sw0, ↓sw1, ↓sw2, ↓gix2, ↓app0, ↓app1, ↓app2, ↓appB, ↓isL0, ↓isL1, ↓isL2, ↓isLB, ↓isLv, ↓at_head, ↓v0, ↓v1, ↓v2, ↓v3, ↓v4, ↓v5, ↓v6, ↓v7, ↓v8, ↓v9, ↓v10, ↓v11, ↓v12, ↓v13, ↓v14, ↓v15, ↓v16, ↓v17, ↓t0, ↓t1, ↓t2, ↓t3, ↓t4, ↓t5, ↓t6, ↓t7, ↓t8, ↓setAll0, ↓setAll1, List.set_cons_zero, List.set_cons_succ, decide_eq_true_eq, Bool.not_eq_true', decide_eq_false_iff_not]
  exact ⟨mul_l (by decide) (by decide), end0 q⟩
theorem w_lag {S : Sto} {Q : RV → Sto → Prop} {b : Bnd} (q : Q (.v (.int b.lag)) S) : WC c__law_lag [.v b.v] S Q := by
  refine wc_d rfl ?_
  unfold m__law_lag Bnd.v
  show W _ [some (.v (.tup _))] _ _
  simp only [↓w_c, ↓w_e2, ↓we1', ↓p_v, ↓pr0, ↓pr1, ↓pr2, ↓pr3, ↓prA, ↓prB, ↓poL, ↓poD, ↓wB', ↓wt_N, ↓wt_An, ↓wt_Or, ↓wt_Ye, ↓w_Bo, ↓w_An, ↓w_Or, ↓w_If, ↓ws_If, ↓wa_Nil, ↓wa_Cons, ↓wTup', ↓wLst', ↓wLstM', ↓w_Dct, ↓w_DctM, ↓w_B, ↓w_Call, ↓wMt', ↓pl_nil, ↓pl_cons, ↓wc_P, ↓wc_M, ↓wSl', ↓wo_No, ↓woS', ↓wRlv, ↓wRlm, ↓ws_Nil, ↓ws_Cons, ↓then_nx, ↓then_rt, ↓ws_Asg, ↓wg_Nm, ↓wg_Tp, ↓wgs_Nil, ↓wgs_Cons, ↓wgSb', ↓ws_Par, ↓aug0, ↓aug1, ↓aug2, ↓aug3, ↓aug4, ↓aug5, ↓aug6, ↓aug7, ↓aug8, ↓aug9, ↓aug10, ↓aug11, ↓aug12, ↓aug13, ↓aug14, ↓aug15, ↓aug16, ↓aug17, ↓wAugS', ↓ws_Ret, ↓ws_RetT, ↓ws_Drop, ↓ws_For, ↓wSq', ↓wRg', ↓rg1, ↓rg2, ↓rg3, ↓rl1, ↓rl2, ↓rl3, ↓wEn', ↓enV, ↓wZp', ↓zpVV, ↓zpVB, ↓g_add, ↓g_addL, ↓g_addT, ↓g_iadd, ↓g_sub, ↓g_mul, ↓g_mulL, ↓g_fdiv, ↓g_mod, ↓g_pow, ↓g_lt, ↓g_le, ↓g_gt, ↓g_ge, ↓g_eqI, ↓g_neI, ↓g_is, ↓g_isnt, ↓g_ixT, ↓g_ixL, ↓g_ixD, ↓gl_abs, ↓gl_max, ↓gl_min, ↓gl_int, ↓gl_intB, ↓gl_gcd, ↓gl_lenL, ↓gl_lenT, ↓gl_tupL, ↓gl_tupT, ↓gl_lstL, ↓gl_lstT, ↓gl_rep, ↓gl_sortD, ↓gl_sortL, ↓ngI, ↓slL, ↓slT, ↓slS, ↓bo, ↓io, ↓av0, ↓av1, ↓itL, ↓itT, ↓it0, ↓it1, ↓it2, ↓itB, ↓rtB, ↓rt_v, ↓g_ninI, ↓g_inI, ↓w_Lc, ↓w_LcM, ↓turn_nx, wipeL_cons, wipeL_nil, ↓sw0, ↓sw1, ↓sw2, ↓gix2, ↓app0, ↓app1, ↓app2, ↓appB, ↓isL0, ↓isL1, ↓isL2, ↓isLB, ↓isLv, ↓at_head, ↓v0, ↓v1, ↓v2, ↓v3, ↓v4, ↓v5, ↓v6, ↓v7, ↓v8, ↓v9, ↓v10, ↓v11, ↓v12, ↓v13, ↓v14, ↓v15, ↓v16, ↓v17, ↓t0, ↓t1, ↓t2, ↓t3, ↓t4, ↓t5, ↓t6, ↓t7, ↓t8, ↓setAll0, ↓setAll1, List.set_cons_zero, List.set_cons_succ, decide_eq_true_eq, Bool.not_eq_true', decide_eq_false_iff_not]
  exact ⟨mul_l (by decide) (by decide), end0 q⟩
theorem w_lag2 {S : Sto} {Q : RV → Sto → Prop} {b : Bnd} (q : Q (.v (.int b.lag)) S) : WC c_lag_of [.v b.v] S Q := by
  refine wc_d rfl ?_
  unfold m_lag_of Bnd.v
  show W _ [some (.v (.tup _))] _ _
  simp only [↓w_c, ↓w_e2, ↓we1', ↓p_v, ↓pr0, ↓pr1, ↓pr2, ↓pr3, ↓prA, ↓prB, ↓poL, ↓poD, ↓wB', ↓wt_N, ↓wt_An, ↓wt_Or, ↓wt_Ye, ↓w_Bo, ↓w_An, ↓w_Or, ↓w_If, ↓ws_If, ↓wa_Nil, ↓wa_Cons, ↓wTup', ↓wLst', ↓wLstM', ↓w_Dct, ↓w_DctM, ↓w_B, ↓w_Call, ↓wMt', ↓pl_nil, ↓pl_cons, ↓wc_P, ↓wc_M, ↓wSl', ↓wo_No, ↓woS', ↓wRlv, ↓wRlm, ↓ws_Nil, ↓ws_Cons, ↓then_nx, ↓then_rt, ↓ws_Asg, ↓wg_Nm, ↓wg_Tp, ↓wgs_Nil, ↓wgs_Cons, ↓wgSb', ↓ws_Par, ↓aug0, ↓aug1, ↓aug2, ↓aug3, ↓aug4, ↓aug5, ↓aug6, ↓aug7, ↓aug8, ↓aug9, ↓aug10, ↓aug11, ↓aug12, ↓aug13, ↓aug14, ↓aug15, ↓aug16, ↓aug17, ↓wAugS', ↓ws_Ret, ↓ws_RetT, ↓ws_Drop, ↓ws_For, ↓wSq', ↓wRg', ↓rg1, ↓rg2, ↓rg3, ↓rl1, ↓rl2, ↓rl3, ↓wEn', ↓enV, ↓wZp', ↓zpVV, ↓zpVB, ↓g_add, ↓g_addL, ↓g_addT, ↓g_iadd, ↓g_sub, ↓g_mul, ↓g_mulL, ↓g_fdiv, ↓g_mod, ↓g_pow, ↓g_lt, ↓g_le, ↓g_gt, ↓g_ge, ↓g_eqI, ↓g_neI, ↓g_is, ↓g_isnt, ↓g_ixT, ↓g_ixL, ↓g_ixD, ↓gl_abs, ↓gl_max, ↓gl_min, ↓gl_int, ↓gl_intB, ↓gl_gcd, ↓gl_lenL, ↓gl_lenT, ↓gl_tupL, ↓gl_tupT, ↓gl_lstL, ↓gl_lstT, ↓gl_rep, ↓gl_sortD, ↓gl_sortL, ↓ngI, ↓slL, ↓slT, ↓slS, ↓bo, ↓io, ↓av0, ↓av1, ↓itL, ↓itT, ↓it0, ↓it1, ↓it2, ↓itB, ↓rtB, ↓rt_v, ↓g_ninI, ↓g_inI, ↓w_Lc, ↓w_LcM, ↓turn_nx, wipeL_cons, wipeL_nil, ↓sw0, ↓sw1, ↓sw2, ↓gix2, ↓app0, ↓app1, ↓app2, ↓appB, ↓isL0, ↓isL1, ↓isL2, ↓isLB, ↓isLv, ↓at_head, ↓v0, ↓v1, ↓v2, ↓v3, ↓v4, ↓v5, ↓v6, ↓v7, ↓v8, ↓v9, ↓v10, ↓v11, ↓v12, ↓v13, ↓v14, ↓v15, ↓v16, ↓v17, ↓t0, ↓t1, ↓t2, ↓t3, ↓t4, ↓t5, ↓t6, ↓t7, ↓t8, ↓setAll0, ↓setAll1, List.set_cons_zero, List.set_cons_succ, decide_eq_true_eq, Bool.not_eq_true', decide_eq_false_iff_not]
  exact ⟨mul_l (by decide) (by decide), end0 q⟩
theorem w_needed {S : Sto} {Q : RV → Sto → Prop} {b : Bnd} (q : Q (.v (.int b.need)) S) : WC c__law_needed [.v b.v] S Q := by
  refine wc_d rfl ?_
  unfold m__law_needed
  show W _ [some (.v b.v)] _ _
  simp only [↓w_c, ↓w_e2, ↓we1', ↓p_v, ↓pr0, ↓pr1, ↓pr2, ↓pr3, ↓prA, ↓prB, ↓poL, ↓poD, ↓wB', ↓wt_N, ↓wt_An, ↓wt_Or, ↓wt_Ye, ↓w_Bo, ↓w_An, ↓w_Or, ↓w_If, ↓ws_If, ↓wa_Nil, ↓wa_Cons, ↓wTup', ↓wLst', ↓wLstM', ↓w_Dct, ↓w_DctM, ↓w_B, ↓w_Call, ↓wMt', ↓pl_nil, ↓pl_cons, ↓wc_P, ↓wc_M, ↓wSl', ↓wo_No, ↓woS', ↓wRlv, ↓wRlm, ↓ws_Nil, ↓ws_Cons, ↓then_nx, ↓then_rt, ↓ws_Asg, ↓wg_Nm, ↓wg_Tp, ↓wgs_Nil, ↓wgs_Cons, ↓wgSb', ↓ws_Par, ↓aug0, ↓aug1, ↓aug2, ↓aug3, ↓aug4, ↓aug5, ↓aug6, ↓aug7, ↓aug8, ↓aug9, ↓aug10, ↓aug11, ↓aug12, ↓aug13, ↓aug14, ↓aug15, ↓aug16, ↓aug17, ↓wAugS', ↓ws_Ret, ↓ws_RetT, ↓ws_Drop, ↓ws_For, ↓wSq', ↓wRg', ↓rg1, ↓rg2, ↓rg3, ↓rl1, ↓rl2, ↓rl3, ↓wEn', ↓enV, ↓wZp', ↓zpVV, ↓zpVB, ↓g_add, ↓g_addL, ↓g_addT, ↓g_iadd, ↓g_sub, ↓g_mul, ↓g_mulL, ↓g_fdiv, ↓g_mod, ↓g_pow, ↓g_lt, ↓g_le, ↓g_gt, ↓g_ge, ↓g_eqI, ↓g_neI, ↓g_is, ↓g_isnt, ↓g_ixT, ↓g_ixL, ↓g_ixD, ↓gl_abs, ↓gl_max, ↓gl_min, ↓gl_int, ↓gl_intB, ↓gl_gcd, ↓gl_lenL, ↓gl_lenT, ↓gl_tupL, ↓gl_tupT, ↓gl_lstL, ↓gl_lstT, ↓gl_rep, ↓gl_sortD, ↓gl_sortL, ↓ngI, ↓slL, ↓slT, ↓slS, ↓bo, ↓io, ↓av0, ↓av1, ↓itL, ↓itT, ↓it0, ↓it1, ↓it2, ↓itB, ↓rtB, ↓rt_v, ↓g_ninI, ↓g_inI, ↓w_Lc, ↓w_LcM, ↓turn_nx, wipeL_cons, wipeL_nil, ↓sw0, ↓sw1, ↓sw2, ↓gix2, ↓app0, ↓app1, ↓app2, ↓appB, ↓isL0, ↓isL1, ↓isL2, ↓isLB, ↓isLv, ↓at_head, ↓v0, ↓v1, ↓v2, ↓v3, ↓v4, ↓v5, ↓v6, ↓v7, ↓v8, ↓v9, ↓v10, ↓v11, ↓v12, ↓v13, ↓v14, ↓v15, ↓v16, ↓v17, ↓t0, ↓t1, ↓t2, ↓t3, ↓t4, ↓t5, ↓t6, ↓t7, ↓t8, ↓setAll0, ↓setAll1, List.set_cons_zero, List.set_cons_succ, decide_eq_true_eq, Bool.not_eq_true', decide_eq_false_iff_not]
  refine ⟨rfl, w_lag ?_⟩
  unfold Bnd.v
  simp only [↓w_c, ↓w_e2, ↓we1', ↓p_v, ↓pr0, ↓pr1, ↓pr2, ↓pr3, ↓prA, ↓prB, ↓poL, ↓poD, ↓wB', ↓wt_N, ↓wt_An, ↓wt_Or, ↓wt_Ye, ↓w_Bo, ↓w_An, ↓w_Or, ↓w_If, ↓ws_If, ↓wa_Nil, ↓wa_Cons, ↓wTup', ↓wLst', ↓wLstM', ↓w_Dct, ↓w_DctM, ↓w_B, ↓w_Call, ↓wMt', ↓pl_nil, ↓pl_cons, ↓wc_P, ↓wc_M, ↓wSl', ↓wo_No, ↓woS', ↓wRlv, ↓wRlm, ↓ws_Nil, ↓ws_Cons, ↓then_nx, ↓then_rt, ↓ws_Asg, ↓wg_Nm, ↓wg_Tp, ↓wgs_Nil, ↓wgs_Cons, ↓wgSb', ↓ws_Par, ↓aug0, ↓aug1, ↓aug2, ↓aug3, ↓aug4, ↓aug5, ↓aug6, ↓aug7, ↓aug8, ↓aug9, ↓aug10, ↓aug11, ↓aug12, ↓aug13, ↓aug14, ↓aug15, ↓aug16, ↓aug17, ↓wAugS', ↓ws_Ret, ↓ws_RetT, ↓ws_Drop, ↓ws_For, ↓wSq', ↓wRg', ↓rg1, ↓rg2, ↓rg3, ↓rl1, ↓rl2, ↓rl3, ↓wEn', ↓enV, ↓wZp', ↓zpVV, ↓zpVB, ↓g_add, ↓g_addL, ↓g_addT, ↓g_iadd, ↓g_sub, ↓g_mul, ↓g_mulL, ↓g_fdiv, ↓g_mod, ↓g_pow, ↓g_lt, ↓g_le, ↓g_gt, ↓g_ge, ↓g_eqI, ↓g_neI, ↓g_is, ↓g_isnt, ↓g_ixT, ↓g_ixL, ↓g_ixD, ↓gl_abs, ↓gl_max, ↓gl_min, ↓gl_int, ↓gl_intB, ↓gl_gcd, ↓gl_lenL, ↓gl_lenT, ↓gl_tupL, ↓gl_tupT, ↓gl_lstL, ↓gl_lstT, ↓gl_rep, ↓gl_sortD, ↓gl_sortL, ↓ngI, ↓slL, ↓slT, ↓slS, ↓bo, ↓io, ↓av0, ↓av1, ↓itL, ↓itT, ↓it0, ↓it1, ↓it2, ↓itB, ↓rtB, ↓rt_v, ↓g_ninI, ↓g_inI, ↓w_Lc, ↓w_LcM, ↓turn_nx, wipeL_cons, wipeL_nil, ↓sw0, ↓sw1, ↓sw2, ↓gix2, ↓app0, ↓app1, ↓app2, ↓appB, ↓isL0, ↓isL1, ↓isL2, ↓isLB, ↓isLv, ↓at_head, ↓v0, ↓v1, ↓v2, ↓v3, ↓v4, ↓v5, ↓v6, ↓v7, ↓v8, ↓v9, ↓v10, ↓v11, ↓v12, ↓v13, ↓v14, ↓v15, ↓v16, ↓v17, ↓t0, ↓t1, ↓t2, ↓t3, ↓t4, ↓t5, ↓t6, ↓t7, ↓t8, ↓setAll0, ↓setAll1, List.set_cons_zero, List.set_cons_succ, decide_eq_true_eq, Bool.not_eq_true', decide_eq_false_iff_not]
  exact ⟨mul_l (by decide) (by decide), end0 q⟩
theorem w_hold {S : Sto} {Q : RV → Sto → Prop} {b : Bnd} (q : Q (.v (.int b.need)) S) : WC c_hold_needed [.v b.v] S Q := by
  refine wc_d rfl ?_
  unfold m_hold_needed
  show W _ [some (.v b.v)] _ _
  simp only [↓w_c, ↓w_e2, ↓we1', ↓p_v, ↓pr0, ↓pr1, ↓pr2, ↓pr3, ↓prA, ↓prB, ↓poL, ↓poD, ↓wB', ↓wt_N, ↓wt_An, ↓wt_Or, ↓wt_Ye, ↓w_Bo, ↓w_An, ↓w_Or, ↓w_If, ↓ws_If, ↓wa_Nil, ↓wa_Cons, ↓wTup', ↓wLst', ↓wLstM', ↓w_Dct, ↓w_DctM, ↓w_B, ↓w_Call, ↓wMt', ↓pl_nil, ↓pl_cons, ↓wc_P, ↓wc_M, ↓wSl', ↓wo_No, ↓woS', ↓wRlv, ↓wRlm, ↓ws_Nil, ↓ws_Cons, ↓then_nx, ↓then_rt, ↓ws_Asg, ↓wg_Nm, ↓wg_Tp, ↓wgs_Nil, ↓wgs_Cons, ↓wgSb', ↓ws_Par, ↓aug0, ↓aug1, ↓aug2, ↓aug3, ↓aug4, ↓aug5, ↓aug6, ↓aug7, ↓aug8, ↓aug9, ↓aug10, ↓aug11, ↓aug12, ↓aug13, ↓aug14, ↓aug15, ↓aug16, ↓aug17, ↓wAugS', ↓ws_Ret, ↓ws_RetT, ↓ws_Drop, ↓ws_For, ↓wSq', ↓wRg', ↓rg1, ↓rg2, ↓rg3, ↓rl1, ↓rl2, ↓rl3, ↓wEn', ↓enV, ↓wZp', ↓zpVV, ↓zpVB, ↓g_add, ↓g_addL, ↓g_addT, ↓g_iadd, ↓g_sub, ↓g_mul, ↓g_mulL, ↓g_fdiv, ↓g_mod, ↓g_pow, ↓g_lt, ↓g_le, ↓g_gt, ↓g_ge, ↓g_eqI, ↓g_neI, ↓g_is, ↓g_isnt, ↓g_ixT, ↓g_ixL, ↓g_ixD, ↓gl_abs, ↓gl_max, ↓gl_min, ↓gl_int, ↓gl_intB, ↓gl_gcd, ↓gl_lenL, ↓gl_lenT, ↓gl_tupL, ↓gl_tupT, ↓gl_lstL, ↓gl_lstT, ↓gl_rep, ↓gl_sortD, ↓gl_sortL, ↓ngI, ↓slL, ↓slT, ↓slS, ↓bo, ↓io, ↓av0, ↓av1, ↓itL, ↓itT, ↓it0, ↓it1, ↓it2, ↓itB, ↓rtB, ↓rt_v, ↓g_ninI, ↓g_inI, ↓w_Lc, ↓w_LcM, ↓turn_nx, wipeL_cons, wipeL_nil, ↓sw0, ↓sw1, ↓sw2, ↓gix2, ↓app0, ↓app1, ↓app2, ↓appB, ↓isL0, ↓isL1, ↓isL2, ↓isLB, ↓isLv, ↓at_head, ↓v0, ↓v1, ↓v2, ↓v3, ↓v4, ↓v5, ↓v6, ↓v7, ↓v8, ↓v9, ↓v10, ↓v11, ↓v12, ↓v13, ↓v14, ↓v15, ↓v16, ↓v17, ↓t0, ↓t1, ↓t2, ↓t3, ↓t4, ↓t5, ↓t6, ↓t7, ↓t8, ↓setAll0, ↓setAll1, List.set_cons_zero, List.set_cons_succ, decide_eq_true_eq, Bool.not_eq_true', decide_eq_false_iff_not]
  refine ⟨rfl, w_lag2 ?_⟩
  unfold Bnd.v
  simp only [↓w_c, ↓w_e2, ↓we1', ↓p_v, ↓pr0, ↓pr1, ↓pr2, ↓pr3, ↓prA, ↓prB, ↓poL, ↓poD, ↓wB', ↓wt_N, ↓wt_An, ↓wt_Or, ↓wt_Ye, ↓w_Bo, ↓w_An, ↓w_Or, ↓w_If, ↓ws_If, ↓wa_Nil, ↓wa_Cons, ↓wTup', ↓wLst', ↓wLstM', ↓w_Dct, ↓w_DctM, ↓w_B, ↓w_Call, ↓wMt', ↓pl_nil, ↓pl_cons, ↓wc_P, ↓wc_M, ↓wSl', ↓wo_No, ↓woS', ↓wRlv, ↓wRlm, ↓ws_Nil, ↓ws_Cons, ↓then_nx, ↓then_rt, ↓ws_Asg, ↓wg_Nm, ↓wg_Tp, ↓wgs_Nil, ↓wgs_Cons, ↓wgSb', ↓ws_Par, ↓aug0, ↓aug1, ↓aug2, ↓aug3, ↓aug4, ↓aug5, ↓aug6, ↓aug7, ↓aug8, ↓aug9, ↓aug10, ↓aug11, ↓aug12, ↓aug13, ↓aug14, ↓aug15, ↓aug16, ↓aug17, ↓wAugS', ↓ws_Ret, ↓ws_RetT, ↓ws_Drop, ↓ws_For, ↓wSq', ↓wRg', ↓rg1, ↓rg2, ↓rg3, ↓rl1, ↓rl2, ↓rl3, ↓wEn', ↓enV, ↓wZp', ↓zpVV, ↓zpVB, ↓g_add, ↓g_addL, ↓g_addT, ↓g_iadd, ↓g_sub, ↓g_mul, ↓g_mulL, ↓g_fdiv, ↓g_mod, ↓g_pow, ↓g_lt, ↓g_le, ↓g_gt, ↓g_ge, ↓g_eqI, ↓g_neI, ↓g_is, ↓g_isnt, ↓g_ixT, ↓g_ixL, ↓g_ixD, ↓gl_abs, ↓gl_max, ↓gl_min, ↓gl_int, ↓gl_intB, ↓gl_gcd, ↓gl_lenL, ↓gl_lenT, ↓gl_tupL, ↓gl_tupT, ↓gl_lstL, ↓gl_lstT, ↓gl_rep, ↓gl_sortD, ↓gl_sortL, ↓ngI, ↓slL, ↓slT, ↓slS, ↓bo, ↓io, ↓av0, ↓av1, ↓itL, ↓itT, ↓it0, ↓it1, ↓it2, ↓itB, ↓rtB, ↓rt_v, ↓g_ninI, ↓g_inI, ↓w_Lc, ↓w_LcM, ↓turn_nx, wipeL_cons, wipeL_nil, ↓sw0, ↓sw1, ↓sw2, ↓gix2, ↓app0, ↓app1, ↓app2, ↓appB, ↓isL0, ↓isL1, ↓isL2, ↓isLB, ↓isLv, ↓at_head, ↓v0, ↓v1, ↓v2, ↓v3, ↓v4, ↓v5, ↓v6, ↓v7, ↓v8, ↓v9, ↓v10, ↓v11, ↓v12, ↓v13, ↓v14, ↓v15, ↓v16, ↓v17, ↓t0, ↓t1, ↓t2, ↓t3, ↓t4, ↓t5, ↓t6, ↓t7, ↓t8, ↓setAll0, ↓setAll1, List.set_cons_zero, List.set_cons_succ, decide_eq_true_eq, Bool.not_eq_true', decide_eq_false_iff_not]
  exact ⟨mul_l (by decide) (by decide), end0 q⟩
def Bnd.left (b : Bnd) (t : Int) : Int := (b.sp * b.sp + 2 * b.reach * b.reach) * t * t - b.lag * b.lag * (2 * b.wy * b.wy - b.sp * b.sp)
def Bnd.right (b : Bnd) (t : Int) : Int := 8 * b.sp * b.sp * b.reach * b.reach * t * t * t * t
def Bnd.enough (b : Bnd) (t : Int) : Bool := if b.sp * b.sp < 2 * b.reach * b.reach then false else if 0 ≤ b.left t then decide (b.right t ≤ b.left t * b.left t) else false
theorem w_enough {S : Sto} {Q : RV → Sto → Prop} {b : Bnd} (hb : b.In) {t : Int} (h0 : 0 ≤ t) (h1 : t ≤ 10000) (q : Q (.v (.bl (b.enough t))) S) : WC c__law_is_enough [.v b.v, .v (.int t)] S Q := by
  have hsp : Bd 20 b.sp := Bd.of (by have := hb.sp; omega) (by have := hb.sp; omega)
  have hre : Bd 16 b.reach := Bd.of (by have h1 := hb.nr; have h2 := hb.wd; unfold Bnd.reach; omega) (by have h1 := hb.nr; have h2 := hb.wd; unfold Bnd.reach; omega)
  have hlg : Bd 10 b.lag := Bd.of (by have h1 := hb.fl; have h2 := hb.ck; unfold Bnd.lag; omega) (by have h1 := hb.fl; have h2 := hb.ck; unfold Bnd.lag; omega)
  have hwy : Bd 600 b.wy := Bd.of (by have := hb.wy; omega) (by have := hb.wy; omega)
  have ht : Bd 10000 t := Bd.of (by omega) (by omega)
  have c2 : Bd 2 2 := Bd.of (by decide) (by decide)
  have hA := ((hsp.mul hsp).add ((c2.mul hre).mul hre))
  have hL := ((hA.mul ht).mul ht).sub ((hlg.mul hlg).mul (((c2.mul hwy).mul hwy).sub (hsp.mul hsp)))
  refine wc_d rfl ?_
  unfold m__law_is_enough d__law_is_enough_1 d__law_is_enough_2 d__law_is_enough_3 d__law_is_enough_4 d__law_is_enough_5
  show W _ [some (.v b.v), some (.v (.int t)), none, none, none, none, none, none] _ _
  have e : ∀ {α : Prop} {Q' : PV → Prop} , G ixP b.v (.int 0) Q' ↔ Q' (.int b.sp) := by
    intro α Q'
    unfold Bnd.v
    simp only [↓w_c, ↓w_e2, ↓we1', ↓p_v, ↓pr0, ↓pr1, ↓pr2, ↓pr3, ↓prA, ↓prB, ↓poL, ↓poD, ↓wB', ↓wt_N, ↓wt_An, ↓wt_Or, ↓wt_Ye, ↓w_Bo, ↓w_An, ↓w_Or, ↓w_If, ↓ws_If, ↓wa_Nil, ↓wa_Cons, ↓wTup', ↓wLst', ↓wLstM', ↓w_Dct, ↓w_DctM, ↓w_B, ↓w_Call, ↓wMt', ↓pl_nil, ↓pl_cons, ↓wc_P, ↓wc_M, ↓wSl', ↓wo_No, ↓woS', ↓wRlv, ↓wRlm, ↓ws_Nil, ↓ws_Cons, ↓then_nx, ↓then_rt, ↓ws_Asg, ↓wg_Nm, ↓wg_Tp, ↓wgs_Nil, ↓wgs_Cons, ↓wgSb', ↓ws_Par, ↓aug0, ↓aug1, ↓aug2, ↓aug3, ↓aug4, ↓aug5, ↓aug6, ↓aug7, ↓aug8, ↓aug9, ↓aug10, ↓aug11, ↓aug12, ↓aug13, ↓aug14, ↓aug15, ↓aug16, ↓aug17, ↓wAugS', ↓ws_Ret, ↓ws_RetT, ↓ws_Drop, ↓ws_For, ↓wSq', ↓wRg', ↓rg1, ↓rg2, ↓rg3, ↓rl1, ↓rl2, ↓rl3, ↓wEn', ↓enV, ↓wZp', ↓zpVV, ↓zpVB, ↓g_add, ↓g_addL, ↓g_addT, ↓g_iadd, ↓g_sub, ↓g_mul, ↓g_mulL, ↓g_fdiv, ↓g_mod, ↓g_pow, ↓g_lt, ↓g_le, ↓g_gt, ↓g_ge, ↓g_eqI, ↓g_neI, ↓g_is, ↓g_isnt, ↓g_ixT, ↓g_ixL, ↓g_ixD, ↓gl_abs, ↓gl_max, ↓gl_min, ↓gl_int, ↓gl_intB, ↓gl_gcd, ↓gl_lenL, ↓gl_lenT, ↓gl_tupL, ↓gl_tupT, ↓gl_lstL, ↓gl_lstT, ↓gl_rep, ↓gl_sortD, ↓gl_sortL, ↓ngI, ↓slL, ↓slT, ↓slS, ↓bo, ↓io, ↓av0, ↓av1, ↓itL, ↓itT, ↓it0, ↓it1, ↓it2, ↓itB, ↓rtB, ↓rt_v, ↓g_ninI, ↓g_inI, ↓w_Lc, ↓w_LcM, ↓turn_nx, wipeL_cons, wipeL_nil, ↓sw0, ↓sw1, ↓sw2, ↓gix2, ↓app0, ↓app1, ↓app2, ↓appB, ↓isL0, ↓isL1, ↓isL2, ↓isLB, ↓isLv, ↓at_head, ↓v0, ↓v1, ↓v2, ↓v3, ↓v4, ↓v5, ↓v6, ↓v7, ↓v8, ↓v9, ↓v10, ↓v11, ↓v12, ↓v13, ↓v14, ↓v15, ↓v16, ↓v17, ↓t0, ↓t1, ↓t2, ↓t3, ↓t4, ↓t5, ↓t6, ↓t7, ↓t8, ↓setAll0, ↓setAll1, List.set_cons_zero, List.set_cons_succ, decide_eq_true_eq, Bool.not_eq_true', decide_eq_false_iff_not]
  have e5 : ∀ {α : Prop} {Q' : PV → Prop} , G ixP b.v (.int 5) Q' ↔ Q' (.int b.wy) := by
    intro α Q'
    unfold Bnd.v
    simp only [↓w_c, ↓w_e2, ↓we1', ↓p_v, ↓pr0, ↓pr1, ↓pr2, ↓pr3, ↓prA, ↓prB, ↓poL, ↓poD, ↓wB', ↓wt_N, ↓wt_An, ↓wt_Or, ↓wt_Ye, ↓w_Bo, ↓w_An, ↓w_Or, ↓w_If, ↓ws_If, ↓wa_Nil, ↓wa_Cons, ↓wTup', ↓wLst', ↓wLstM', ↓w_Dct, ↓w_DctM, ↓w_B, ↓w_Call, ↓wMt', ↓pl_nil, ↓pl_cons, ↓wc_P, ↓wc_M, ↓wSl', ↓wo_No, ↓woS', ↓wRlv, ↓wRlm, ↓ws_Nil, ↓ws_Cons, ↓then_nx, ↓then_rt, ↓ws_Asg, ↓wg_Nm, ↓wg_Tp, ↓wgs_Nil, ↓wgs_Cons, ↓wgSb', ↓ws_Par, ↓aug0, ↓aug1, ↓aug2, ↓aug3, ↓aug4, ↓aug5, ↓aug6, ↓aug7, ↓aug8, ↓aug9, ↓aug10, ↓aug11, ↓aug12, ↓aug13, ↓aug14, ↓aug15, ↓aug16, ↓aug17, ↓wAugS', ↓ws_Ret, ↓ws_RetT, ↓ws_Drop, ↓ws_For, ↓wSq', ↓wRg', ↓rg1, ↓rg2, ↓rg3, ↓rl1, ↓rl2, ↓rl3, ↓wEn', ↓enV, ↓wZp', ↓zpVV, ↓zpVB, ↓g_add, ↓g_addL, ↓g_addT, ↓g_iadd, ↓g_sub, ↓g_mul, ↓g_mulL, ↓g_fdiv, ↓g_mod, ↓g_pow, ↓g_lt, ↓g_le, ↓g_gt, ↓g_ge, ↓g_eqI, ↓g_neI, ↓g_is, ↓g_isnt, ↓g_ixT, ↓g_ixL, ↓g_ixD, ↓gl_abs, ↓gl_max, ↓gl_min, ↓gl_int, ↓gl_intB, ↓gl_gcd, ↓gl_lenL, ↓gl_lenT, ↓gl_tupL, ↓gl_tupT, ↓gl_lstL, ↓gl_lstT, ↓gl_rep, ↓gl_sortD, ↓gl_sortL, ↓ngI, ↓slL, ↓slT, ↓slS, ↓bo, ↓io, ↓av0, ↓av1, ↓itL, ↓itT, ↓it0, ↓it1, ↓it2, ↓itB, ↓rtB, ↓rt_v, ↓g_ninI, ↓g_inI, ↓w_Lc, ↓w_LcM, ↓turn_nx, wipeL_cons, wipeL_nil, ↓sw0, ↓sw1, ↓sw2, ↓gix2, ↓app0, ↓app1, ↓app2, ↓appB, ↓isL0, ↓isL1, ↓isL2, ↓isLB, ↓isLv, ↓at_head, ↓v0, ↓v1, ↓v2, ↓v3, ↓v4, ↓v5, ↓v6, ↓v7, ↓v8, ↓v9, ↓v10, ↓v11, ↓v12, ↓v13, ↓v14, ↓v15, ↓v16, ↓v17, ↓t0, ↓t1, ↓t2, ↓t3, ↓t4, ↓t5, ↓t6, ↓t7, ↓t8, ↓setAll0, ↓setAll1, List.set_cons_zero, List.set_cons_succ, decide_eq_true_eq, Bool.not_eq_true', decide_eq_false_iff_not]
  simp only [↓w_c, ↓w_e2, ↓we1', ↓p_v, ↓pr0, ↓pr1, ↓pr2, ↓pr3, ↓prA, ↓prB, ↓poL, ↓poD, ↓wB', ↓wt_N, ↓wt_An, ↓wt_Or, ↓wt_Ye, ↓w_Bo, ↓w_An, ↓w_Or, ↓w_If, ↓ws_If, ↓wa_Nil, ↓wa_Cons, ↓wTup', ↓wLst', ↓wLstM', ↓w_Dct, ↓w_DctM, ↓w_B, ↓w_Call, ↓wMt', ↓pl_nil, ↓pl_cons, ↓wc_P, ↓wc_M, ↓wSl', ↓wo_No, ↓woS', ↓wRlv, ↓wRlm, ↓ws_Nil, ↓ws_Cons, ↓then_nx, ↓then_rt, ↓ws_Asg, ↓wg_Nm, ↓wg_Tp, ↓wgs_Nil, ↓wgs_Cons, ↓wgSb', ↓ws_Par, ↓aug0, ↓aug1, ↓aug2, ↓aug3, ↓aug4, ↓aug5, ↓aug6, ↓aug7, ↓aug8, ↓aug9, ↓aug10, ↓aug11, ↓aug12, ↓aug13, ↓aug14, ↓aug15, ↓aug16, ↓aug17, ↓wAugS', ↓ws_Ret, ↓ws_RetT, ↓ws_Drop, ↓ws_For, ↓wSq', ↓wRg', ↓rg1, ↓rg2, ↓rg3, ↓rl1, ↓rl2, ↓rl3, ↓wEn', ↓enV, ↓wZp', ↓zpVV, ↓zpVB, ↓g_add, ↓g_addL, ↓g_addT, ↓g_iadd, ↓g_sub, ↓g_mul, ↓g_mulL, ↓g_fdiv, ↓g_mod, ↓g_pow, ↓g_lt, ↓g_le, ↓g_gt, ↓g_ge, ↓g_eqI, ↓g_neI, ↓g_is, ↓g_isnt, ↓g_ixT, ↓g_ixL, ↓g_ixD, ↓gl_abs, ↓gl_max, ↓gl_min, ↓gl_int, ↓gl_intB, ↓gl_gcd, ↓gl_lenL, ↓gl_lenT, ↓gl_tupL, ↓gl_tupT, ↓gl_lstL, ↓gl_lstT, ↓gl_rep, ↓gl_sortD, ↓gl_sortL, ↓ngI, ↓slL, ↓slT, ↓slS, ↓bo, ↓io, ↓av0, ↓av1, ↓itL, ↓itT, ↓it0, ↓it1, ↓it2, ↓itB, ↓rtB, ↓rt_v, ↓g_ninI, ↓g_inI, ↓w_Lc, ↓w_LcM, ↓turn_nx, wipeL_cons, wipeL_nil, ↓sw0, ↓sw1, ↓sw2, ↓gix2, ↓app0, ↓app1, ↓app2, ↓appB, ↓isL0, ↓isL1, ↓isL2, ↓isLB, ↓isLv, ↓at_head, ↓v0, ↓v1, ↓v2, ↓v3, ↓v4, ↓v5, ↓v6, ↓v7, ↓v8, ↓v9, ↓v10, ↓v11, ↓v12, ↓v13, ↓v14, ↓v15, ↓v16, ↓v17, ↓t0, ↓t1, ↓t2, ↓t3, ↓t4, ↓t5, ↓t6, ↓t7, ↓t8, ↓setAll0, ↓setAll1, List.set_cons_zero, List.set_cons_succ, decide_eq_true_eq, Bool.not_eq_true', decide_eq_false_iff_not]
  refine (e (α := True)).mpr ⟨rfl, w_reach hb ((e5 (α := True)).mpr ⟨rfl, w_lag ?_⟩)⟩
  simp only [↓w_c, ↓w_e2, ↓we1', ↓p_v, ↓pr0, ↓pr1, ↓pr2, ↓pr3, ↓prA, ↓prB, ↓poL, ↓poD, ↓wB', ↓wt_N, ↓wt_An, ↓wt_Or, ↓wt_Ye, ↓w_Bo, ↓w_An, ↓w_Or, ↓w_If, ↓ws_If, ↓wa_Nil, ↓wa_Cons, ↓wTup', ↓wLst', ↓wLstM', ↓w_Dct, ↓w_DctM, ↓w_B, ↓w_Call, ↓wMt', ↓pl_nil, ↓pl_cons, ↓wc_P, ↓wc_M, ↓wSl', ↓wo_No, ↓woS', ↓wRlv, ↓wRlm, ↓ws_Nil, ↓ws_Cons, ↓then_nx, ↓then_rt, ↓ws_Asg, ↓wg_Nm, ↓wg_Tp, ↓wgs_Nil, ↓wgs_Cons, ↓wgSb', ↓ws_Par, ↓aug0, ↓aug1, ↓aug2, ↓aug3, ↓aug4, ↓aug5, ↓aug6, ↓aug7, ↓aug8, ↓aug9, ↓aug10, ↓aug11, ↓aug12, ↓aug13, ↓aug14, ↓aug15, ↓aug16, ↓aug17, ↓wAugS', ↓ws_Ret, ↓ws_RetT, ↓ws_Drop, ↓ws_For, ↓wSq', ↓wRg', ↓rg1, ↓rg2, ↓rg3, ↓rl1, ↓rl2, ↓rl3, ↓wEn', ↓enV, ↓wZp', ↓zpVV, ↓zpVB, ↓g_add, ↓g_addL, ↓g_addT, ↓g_iadd, ↓g_sub, ↓g_mul, ↓g_mulL, ↓g_fdiv, ↓g_mod, ↓g_pow, ↓g_lt, ↓g_le, ↓g_gt, ↓g_ge, ↓g_eqI, ↓g_neI, ↓g_is, ↓g_isnt, ↓g_ixT, ↓g_ixL, ↓g_ixD, ↓gl_abs, ↓gl_max, ↓gl_min, ↓gl_int, ↓gl_intB, ↓gl_gcd, ↓gl_lenL, ↓gl_lenT, ↓gl_tupL, ↓gl_tupT, ↓gl_lstL, ↓gl_lstT, ↓gl_rep, ↓gl_sortD, ↓gl_sortL, ↓ngI, ↓slL, ↓slT, ↓slS, ↓bo, ↓io, ↓av0, ↓av1, ↓itL, ↓itT, ↓it0, ↓it1, ↓it2, ↓itB, ↓rtB, ↓rt_v, ↓g_ninI, ↓g_inI, ↓w_Lc, ↓w_LcM, ↓turn_nx, wipeL_cons, wipeL_nil, ↓sw0, ↓sw1, ↓sw2, ↓gix2, ↓app0, ↓app1, ↓app2, ↓appB, ↓isL0, ↓isL1, ↓isL2, ↓isLB, ↓isLv, ↓at_head, ↓v0, ↓v1, ↓v2, ↓v3, ↓v4, ↓v5, ↓v6, ↓v7, ↓v8, ↓v9, ↓v10, ↓v11, ↓v12, ↓v13, ↓v14, ↓v15, ↓v16, ↓v17, ↓t0, ↓t1, ↓t2, ↓t3, ↓t4, ↓t5, ↓t6, ↓t7, ↓t8, ↓setAll0, ↓setAll1, List.set_cons_zero, List.set_cons_succ, decide_eq_true_eq, Bool.not_eq_true', decide_eq_false_iff_not]
  refine ⟨⟨rfl, rfl⟩, hsp.l (by decide), mul_l (by decide) (by decide), hre.r (by decide), ?_⟩
  unfold Bnd.enough Bnd.left Bnd.right at q
  split
  · rename_i hc
    rw [if_pos hc] at q
    exact end0 q
  · rename_i hc
    rw [if_neg hc] at q
    refine ⟨hsp.l (by decide), mul_l (by decide) (by decide), hre.r (by decide), ht.r (by decide), ht.r (by decide), hlg.l (by decide), mul_l (by decide) (by decide), hwy.r (by decide), hsp.l (by decide), (hlg.mul hlg).l (by decide),
      mul_l (by decide) (by decide), hsp.r (by decide), hre.r (by decide), hre.r (by decide), ht.r (by decide), ht.r (by decide), ht.r (by decide), ht.r (by decide), ?_⟩
    split
    · rename_i hc2
      rw [if_pos hc2] at q
      exact ⟨hL.l (by decide), end0 q⟩
    · rename_i hc2
      rw [if_neg hc2] at q
      exact end0 q
/-- the first ticks that are enough: none, or a number -/
theorem w_first {S : Sto} {Q : RV → Sto → Prop} {b : Bnd} (hb : b.In) (k : ∀ x : PV, (if 9990 < max 1 b.lag ∨ b.enough 9990 = false then x = .non else ∃ i, x = .int i ∧ 1 ≤ i ∧ i ≤ 9990) → Q (.v x) S) : WC c__law_first_enough [.v b.v, .v (.int 9990)] S Q := by
  have hlag : 0 ≤ b.lag ∧ b.lag ≤ 10 := by
    have h1 := hb.fl
    have h2 := hb.ck
    unfold Bnd.lag
    omega
  have hm : ∀ x : Int, (if b.lag > 1 then b.lag else 1) = max 1 b.lag := fun _ => by omega
  refine wc_d rfl ?_
  unfold m__law_first_enough d__law_first_enough_1 d__law_first_enough_2 d__law_first_enough_3
  show W _ [some (.v b.v), some (.v (.int 9990)), none, none, none, none] _ _
  simp only [↓w_c, ↓w_e2, ↓we1', ↓p_v, ↓pr0, ↓pr1, ↓pr2, ↓pr3, ↓prA, ↓prB, ↓poL, ↓poD, ↓wB', ↓wt_N, ↓wt_An, ↓wt_Or, ↓wt_Ye, ↓w_Bo, ↓w_An, ↓w_Or, ↓w_If, ↓ws_If, ↓wa_Nil, ↓wa_Cons, ↓wTup', ↓wLst', ↓wLstM', ↓w_Dct, ↓w_DctM, ↓w_B, ↓w_Call, ↓wMt', ↓pl_nil, ↓pl_cons, ↓wc_P, ↓wc_M, ↓wSl', ↓wo_No, ↓woS', ↓wRlv, ↓wRlm, ↓ws_Nil, ↓ws_Cons, ↓then_nx, ↓then_rt, ↓ws_Asg, ↓wg_Nm, ↓wg_Tp, ↓wgs_Nil, ↓wgs_Cons, ↓wgSb', ↓ws_Par, ↓aug0, ↓aug1, ↓aug2, ↓aug3, ↓aug4, ↓aug5, ↓aug6, ↓aug7, ↓aug8, ↓aug9, ↓aug10, ↓aug11, ↓aug12, ↓aug13, ↓aug14, ↓aug15, ↓aug16, ↓aug17, ↓wAugS', ↓ws_Ret, ↓ws_RetT, ↓ws_Drop, ↓ws_For, ↓wSq', ↓wRg', ↓rg1, ↓rg2, ↓rg3, ↓rl1, ↓rl2, ↓rl3, ↓wEn', ↓enV, ↓wZp', ↓zpVV, ↓zpVB, ↓g_add, ↓g_addL, ↓g_addT, ↓g_iadd, ↓g_sub, ↓g_mul, ↓g_mulL, ↓g_fdiv, ↓g_mod, ↓g_pow, ↓g_lt, ↓g_le, ↓g_gt, ↓g_ge, ↓g_eqI, ↓g_neI, ↓g_is, ↓g_isnt, ↓g_ixT, ↓g_ixL, ↓g_ixD, ↓gl_abs, ↓gl_max, ↓gl_min, ↓gl_int, ↓gl_intB, ↓gl_gcd, ↓gl_lenL, ↓gl_lenT, ↓gl_tupL, ↓gl_tupT, ↓gl_lstL, ↓gl_lstT, ↓gl_rep, ↓gl_sortD, ↓gl_sortL, ↓ngI, ↓slL, ↓slT, ↓slS, ↓bo, ↓io, ↓av0, ↓av1, ↓itL, ↓itT, ↓it0, ↓it1, ↓it2, ↓itB, ↓rtB, ↓rt_v, ↓g_ninI, ↓g_inI, ↓w_Lc, ↓w_LcM, ↓turn_nx, wipeL_cons, wipeL_nil, ↓sw0, ↓sw1, ↓sw2, ↓gix2, ↓app0, ↓app1, ↓app2, ↓appB, ↓isL0, ↓isL1, ↓isL2, ↓isLB, ↓isLv, ↓at_head, ↓v0, ↓v1, ↓v2, ↓v3, ↓v4, ↓v5, ↓v6, ↓v7, ↓v8, ↓v9, ↓v10, ↓v11, ↓v12, ↓v13, ↓v14, ↓v15, ↓v16, ↓v17, ↓t0, ↓t1, ↓t2, ↓t3, ↓t4, ↓t5, ↓t6, ↓t7, ↓t8, ↓setAll0, ↓setAll1, List.set_cons_zero, List.set_cons_succ, decide_eq_true_eq, Bool.not_eq_true', decide_eq_false_iff_not]
  refine ⟨rfl, w_lag ?_⟩
  simp only [↓w_c, ↓w_e2, ↓we1', ↓p_v, ↓pr0, ↓pr1, ↓pr2, ↓pr3, ↓prA, ↓prB, ↓poL, ↓poD, ↓wB', ↓wt_N, ↓wt_An, ↓wt_Or, ↓wt_Ye, ↓w_Bo, ↓w_An, ↓w_Or, ↓w_If, ↓ws_If, ↓wa_Nil, ↓wa_Cons, ↓wTup', ↓wLst', ↓wLstM', ↓w_Dct, ↓w_DctM, ↓w_B, ↓w_Call, ↓wMt', ↓pl_nil, ↓pl_cons, ↓wc_P, ↓wc_M, ↓wSl', ↓wo_No, ↓woS', ↓wRlv, ↓wRlm, ↓ws_Nil, ↓ws_Cons, ↓then_nx, ↓then_rt, ↓ws_Asg, ↓wg_Nm, ↓wg_Tp, ↓wgs_Nil, ↓wgs_Cons, ↓wgSb', ↓ws_Par, ↓aug0, ↓aug1, ↓aug2, ↓aug3, ↓aug4, ↓aug5, ↓aug6, ↓aug7, ↓aug8, ↓aug9, ↓aug10, ↓aug11, ↓aug12, ↓aug13, ↓aug14, ↓aug15, ↓aug16, ↓aug17, ↓wAugS', ↓ws_Ret, ↓ws_RetT, ↓ws_Drop, ↓ws_For, ↓wSq', ↓wRg', ↓rg1, ↓rg2, ↓rg3, ↓rl1, ↓rl2, ↓rl3, ↓wEn', ↓enV, ↓wZp', ↓zpVV, ↓zpVB, ↓g_add, ↓g_addL, ↓g_addT, ↓g_iadd, ↓g_sub, ↓g_mul, ↓g_mulL, ↓g_fdiv, ↓g_mod, ↓g_pow, ↓g_lt, ↓g_le, ↓g_gt, ↓g_ge, ↓g_eqI, ↓g_neI, ↓g_is, ↓g_isnt, ↓g_ixT, ↓g_ixL, ↓g_ixD, ↓gl_abs, ↓gl_max, ↓gl_min, ↓gl_int, ↓gl_intB, ↓gl_gcd, ↓gl_lenL, ↓gl_lenT, ↓gl_tupL, ↓gl_tupT, ↓gl_lstL, ↓gl_lstT, ↓gl_rep, ↓gl_sortD, ↓gl_sortL, ↓ngI, ↓slL, ↓slT, ↓slS, ↓bo, ↓io, ↓av0, ↓av1, ↓itL, ↓itT, ↓it0, ↓it1, ↓it2, ↓itB, ↓rtB, ↓rt_v, ↓g_ninI, ↓g_inI, ↓w_Lc, ↓w_LcM, ↓turn_nx, wipeL_cons, wipeL_nil, ↓sw0, ↓sw1, ↓sw2, ↓gix2, ↓app0, ↓app1, ↓app2, ↓appB, ↓isL0, ↓isL1, ↓isL2, ↓isLB, ↓isLv, ↓at_head, ↓v0, ↓v1, ↓v2, ↓v3, ↓v4, ↓v5, ↓v6, ↓v7, ↓v8, ↓v9, ↓v10, ↓v11, ↓v12, ↓v13, ↓v14, ↓v15, ↓v16, ↓v17, ↓t0, ↓t1, ↓t2, ↓t3, ↓t4, ↓t5, ↓t6, ↓t7, ↓t8, ↓setAll0, ↓setAll1, List.set_cons_zero, List.set_cons_succ, decide_eq_true_eq, Bool.not_eq_true', decide_eq_false_iff_not]
  refine ⟨⟨rfl, rfl⟩, ?_⟩
  rw [hm 0]
  rw [if_neg (by omega)]
  refine ⟨rfl, w_enough hb (by decide) (by decide) ?_⟩
  simp only [↓w_c, ↓w_e2, ↓we1', ↓p_v, ↓pr0, ↓pr1, ↓pr2, ↓pr3, ↓prA, ↓prB, ↓poL, ↓poD, ↓wB', ↓wt_N, ↓wt_An, ↓wt_Or, ↓wt_Ye, ↓w_Bo, ↓w_An, ↓w_Or, ↓w_If, ↓ws_If, ↓wa_Nil, ↓wa_Cons, ↓wTup', ↓wLst', ↓wLstM', ↓w_Dct, ↓w_DctM, ↓w_B, ↓w_Call, ↓wMt', ↓pl_nil, ↓pl_cons, ↓wc_P, ↓wc_M, ↓wSl', ↓wo_No, ↓woS', ↓wRlv, ↓wRlm, ↓ws_Nil, ↓ws_Cons, ↓then_nx, ↓then_rt, ↓ws_Asg, ↓wg_Nm, ↓wg_Tp, ↓wgs_Nil, ↓wgs_Cons, ↓wgSb', ↓ws_Par, ↓aug0, ↓aug1, ↓aug2, ↓aug3, ↓aug4, ↓aug5, ↓aug6, ↓aug7, ↓aug8, ↓aug9, ↓aug10, ↓aug11, ↓aug12, ↓aug13, ↓aug14, ↓aug15, ↓aug16, ↓aug17, ↓wAugS', ↓ws_Ret, ↓ws_RetT, ↓ws_Drop, ↓ws_For, ↓wSq', ↓wRg', ↓rg1, ↓rg2, ↓rg3, ↓rl1, ↓rl2, ↓rl3, ↓wEn', ↓enV, ↓wZp', ↓zpVV, ↓zpVB, ↓g_add, ↓g_addL, ↓g_addT, ↓g_iadd, ↓g_sub, ↓g_mul, ↓g_mulL, ↓g_fdiv, ↓g_mod, ↓g_pow, ↓g_lt, ↓g_le, ↓g_gt, ↓g_ge, ↓g_eqI, ↓g_neI, ↓g_is, ↓g_isnt, ↓g_ixT, ↓g_ixL, ↓g_ixD, ↓gl_abs, ↓gl_max, ↓gl_min, ↓gl_int, ↓gl_intB, ↓gl_gcd, ↓gl_lenL, ↓gl_lenT, ↓gl_tupL, ↓gl_tupT, ↓gl_lstL, ↓gl_lstT, ↓gl_rep, ↓gl_sortD, ↓gl_sortL, ↓ngI, ↓slL, ↓slT, ↓slS, ↓bo, ↓io, ↓av0, ↓av1, ↓itL, ↓itT, ↓it0, ↓it1, ↓it2, ↓itB, ↓rtB, ↓rt_v, ↓g_ninI, ↓g_inI, ↓w_Lc, ↓w_LcM, ↓turn_nx, wipeL_cons, wipeL_nil, ↓sw0, ↓sw1, ↓sw2, ↓gix2, ↓app0, ↓app1, ↓app2, ↓appB, ↓isL0, ↓isL1, ↓isL2, ↓isLB, ↓isLv, ↓at_head, ↓v0, ↓v1, ↓v2, ↓v3, ↓v4, ↓v5, ↓v6, ↓v7, ↓v8, ↓v9, ↓v10, ↓v11, ↓v12, ↓v13, ↓v14, ↓v15, ↓v16, ↓v17, ↓t0, ↓t1, ↓t2, ↓t3, ↓t4, ↓t5, ↓t6, ↓t7, ↓t8, ↓setAll0, ↓setAll1, List.set_cons_zero, List.set_cons_succ, decide_eq_true_eq, Bool.not_eq_true', decide_eq_false_iff_not]
  split
  · rename_i hc
    exact end0 (k _ (by rw [if_pos (.inr hc)]))
  · rename_i hc
    refine ⟨by decide, wf_inv (fun _ r S' => S' = S ∧ ∃ (lo hi : Int) (y z : Option RV), r = [some (.v b.v), some (.v (.int 9990)), some (.v (.int lo)), some (.v (.int hi)), y, z] ∧ 1 ≤ lo ∧ lo ≤ hi ∧ hi ≤ 9990) ⟨rfl, _, _, _, _, rfl, by omega, by omega, by omega⟩ ?_ ?_⟩
    · rintro i x r S' hx ⟨rfl, lo, hi, y, z, rfl, h1, h2, h3⟩
      refine ⟨ok_nil _, ?_⟩
      unfold b__law_first_enough_1 b__law_first_enough_1_1
      simp only [↓w_c, ↓w_e2, ↓we1', ↓p_v, ↓pr0, ↓pr1, ↓pr2, ↓pr3, ↓prA, ↓prB, ↓poL, ↓poD, ↓wB', ↓wt_N, ↓wt_An, ↓wt_Or, ↓wt_Ye, ↓w_Bo, ↓w_An, ↓w_Or, ↓w_If, ↓ws_If, ↓wa_Nil, ↓wa_Cons, ↓wTup', ↓wLst', ↓wLstM', ↓w_Dct, ↓w_DctM, ↓w_B, ↓w_Call, ↓wMt', ↓pl_nil, ↓pl_cons, ↓wc_P, ↓wc_M, ↓wSl', ↓wo_No, ↓woS', ↓wRlv, ↓wRlm, ↓ws_Nil, ↓ws_Cons, ↓then_nx, ↓then_rt, ↓ws_Asg, ↓wg_Nm, ↓wg_Tp, ↓wgs_Nil, ↓wgs_Cons, ↓wgSb', ↓ws_Par, ↓aug0, ↓aug1, ↓aug2, ↓aug3, ↓aug4, ↓aug5, ↓aug6, ↓aug7, ↓aug8, ↓aug9, ↓aug10, ↓aug11, ↓aug12, ↓aug13, ↓aug14, ↓aug15, ↓aug16, ↓aug17, ↓wAugS', ↓ws_Ret, ↓ws_RetT, ↓ws_Drop, ↓ws_For, ↓wSq', ↓wRg', ↓rg1, ↓rg2, ↓rg3, ↓rl1, ↓rl2, ↓rl3, ↓wEn', ↓enV, ↓wZp', ↓zpVV, ↓zpVB, ↓g_add, ↓g_addL, ↓g_addT, ↓g_iadd, ↓g_sub, ↓g_mul, ↓g_mulL, ↓g_fdiv, ↓g_mod, ↓g_pow, ↓g_lt, ↓g_le, ↓g_gt, ↓g_ge, ↓g_eqI, ↓g_neI, ↓g_is, ↓g_isnt, ↓g_ixT, ↓g_ixL, ↓g_ixD, ↓gl_abs, ↓gl_max, ↓gl_min, ↓gl_int, ↓gl_intB, ↓gl_gcd, ↓gl_lenL, ↓gl_lenT, ↓gl_tupL, ↓gl_tupT, ↓gl_lstL, ↓gl_lstT, ↓gl_rep, ↓gl_sortD, ↓gl_sortL, ↓ngI, ↓slL, ↓slT, ↓slS, ↓bo, ↓io, ↓av0, ↓av1, ↓itL, ↓itT, ↓it0, ↓it1, ↓it2, ↓itB, ↓rtB, ↓rt_v, ↓g_ninI, ↓g_inI, ↓w_Lc, ↓w_LcM, ↓turn_nx, wipeL_cons, wipeL_nil, ↓sw0, ↓sw1, ↓sw2, ↓gix2, ↓app0, ↓app1, ↓app2, ↓appB, ↓isL0, ↓isL1, ↓isL2, ↓isLB, ↓isLv, ↓at_head, ↓v0, ↓v1, ↓v2, ↓v3, ↓v4, ↓v5, ↓v6, ↓v7, ↓v8, ↓v9, ↓v10, ↓v11, ↓v12, ↓v13, ↓v14, ↓v15, ↓v16, ↓v17, ↓t0, ↓t1, ↓t2, ↓t3, ↓t4, ↓t5, ↓t6, ↓t7, ↓t8, ↓setAll0, ↓setAll1, List.set_cons_zero, List.set_cons_succ, decide_eq_true_eq, Bool.not_eq_true', decide_eq_false_iff_not]
      refine ⟨div_ok (by decide) (by decide), ?_⟩
      split
      · rename_i hlt
        refine ⟨rfl, w_enough hb (by omega) (by omega) ?_⟩
        simp only [↓w_c, ↓w_e2, ↓we1', ↓p_v, ↓pr0, ↓pr1, ↓pr2, ↓pr3, ↓prA, ↓prB, ↓poL, ↓poD, ↓wB', ↓wt_N, ↓wt_An, ↓wt_Or, ↓wt_Ye, ↓w_Bo, ↓w_An, ↓w_Or, ↓w_If, ↓ws_If, ↓wa_Nil, ↓wa_Cons, ↓wTup', ↓wLst', ↓wLstM', ↓w_Dct, ↓w_DctM, ↓w_B, ↓w_Call, ↓wMt', ↓pl_nil, ↓pl_cons, ↓wc_P, ↓wc_M, ↓wSl', ↓wo_No, ↓woS', ↓wRlv, ↓wRlm, ↓ws_Nil, ↓ws_Cons, ↓then_nx, ↓then_rt, ↓ws_Asg, ↓wg_Nm, ↓wg_Tp, ↓wgs_Nil, ↓wgs_Cons, ↓wgSb', ↓ws_Par, ↓aug0, ↓aug1, ↓aug2, ↓aug3, ↓aug4, ↓aug5, ↓aug6, ↓aug7, ↓aug8, ↓aug9, ↓aug10, ↓aug11, ↓aug12, ↓aug13, ↓aug14, ↓aug15, ↓aug16, ↓aug17, ↓wAugS', ↓ws_Ret, ↓ws_RetT, ↓ws_Drop, ↓ws_For, ↓wSq', ↓wRg', ↓rg1, ↓rg2, ↓rg3, ↓rl1, ↓rl2, ↓rl3, ↓wEn', ↓enV, ↓wZp', ↓zpVV, ↓zpVB, ↓g_add, ↓g_addL, ↓g_addT, ↓g_iadd, ↓g_sub, ↓g_mul, ↓g_mulL, ↓g_fdiv, ↓g_mod, ↓g_pow, ↓g_lt, ↓g_le, ↓g_gt, ↓g_ge, ↓g_eqI, ↓g_neI, ↓g_is, ↓g_isnt, ↓g_ixT, ↓g_ixL, ↓g_ixD, ↓gl_abs, ↓gl_max, ↓gl_min, ↓gl_int, ↓gl_intB, ↓gl_gcd, ↓gl_lenL, ↓gl_lenT, ↓gl_tupL, ↓gl_tupT, ↓gl_lstL, ↓gl_lstT, ↓gl_rep, ↓gl_sortD, ↓gl_sortL, ↓ngI, ↓slL, ↓slT, ↓slS, ↓bo, ↓io, ↓av0, ↓av1, ↓itL, ↓itT, ↓it0, ↓it1, ↓it2, ↓itB, ↓rtB, ↓rt_v, ↓g_ninI, ↓g_inI, ↓w_Lc, ↓w_LcM, ↓turn_nx, wipeL_cons, wipeL_nil, ↓sw0, ↓sw1, ↓sw2, ↓gix2, ↓app0, ↓app1, ↓app2, ↓appB, ↓isL0, ↓isL1, ↓isL2, ↓isLB, ↓isLv, ↓at_head, ↓v0, ↓v1, ↓v2, ↓v3, ↓v4, ↓v5, ↓v6, ↓v7, ↓v8, ↓v9, ↓v10, ↓v11, ↓v12, ↓v13, ↓v14, ↓v15, ↓v16, ↓v17, ↓t0, ↓t1, ↓t2, ↓t3, ↓t4, ↓t5, ↓t6, ↓t7, ↓t8, ↓setAll0, ↓setAll1, List.set_cons_zero, List.set_cons_succ, decide_eq_true_eq, Bool.not_eq_true', decide_eq_false_iff_not]
        split
        · exact ⟨trivial, lo, _, _, _, rfl, h1, by omega, by omega⟩
        · exact ⟨trivial, _, hi, _, _, rfl, by omega, by omega, h3⟩
      · exact ⟨trivial, lo, hi, _, _, rfl, h1, h2, h3⟩
    · rintro r S' ⟨rfl, lo, hi, y, z, rfl, h1, h2, h3⟩
      refine ⟨ok_nil _, ?_⟩
      simp only [↓w_c, ↓w_e2, ↓we1', ↓p_v, ↓pr0, ↓pr1, ↓pr2, ↓pr3, ↓prA, ↓prB, ↓poL, ↓poD, ↓wB', ↓wt_N, ↓wt_An, ↓wt_Or, ↓wt_Ye, ↓w_Bo, ↓w_An, ↓w_Or, ↓w_If, ↓ws_If, ↓wa_Nil, ↓wa_Cons, ↓wTup', ↓wLst', ↓wLstM', ↓w_Dct, ↓w_DctM, ↓w_B, ↓w_Call, ↓wMt', ↓pl_nil, ↓pl_cons, ↓wc_P, ↓wc_M, ↓wSl', ↓wo_No, ↓woS', ↓wRlv, ↓wRlm, ↓ws_Nil, ↓ws_Cons, ↓then_nx, ↓then_rt, ↓ws_Asg, ↓wg_Nm, ↓wg_Tp, ↓wgs_Nil, ↓wgs_Cons, ↓wgSb', ↓ws_Par, ↓aug0, ↓aug1, ↓aug2, ↓aug3, ↓aug4, ↓aug5, ↓aug6, ↓aug7, ↓aug8, ↓aug9, ↓aug10, ↓aug11, ↓aug12, ↓aug13, ↓aug14, ↓aug15, ↓aug16, ↓aug17, ↓wAugS', ↓ws_Ret, ↓ws_RetT, ↓ws_Drop, ↓ws_For, ↓wSq', ↓wRg', ↓rg1, ↓rg2, ↓rg3, ↓rl1, ↓rl2, ↓rl3, ↓wEn', ↓enV, ↓wZp', ↓zpVV, ↓zpVB, ↓g_add, ↓g_addL, ↓g_addT, ↓g_iadd, ↓g_sub, ↓g_mul, ↓g_mulL, ↓g_fdiv, ↓g_mod, ↓g_pow, ↓g_lt, ↓g_le, ↓g_gt, ↓g_ge, ↓g_eqI, ↓g_neI, ↓g_is, ↓g_isnt, ↓g_ixT, ↓g_ixL, ↓g_ixD, ↓gl_abs, ↓gl_max, ↓gl_min, ↓gl_int, ↓gl_intB, ↓gl_gcd, ↓gl_lenL, ↓gl_lenT, ↓gl_tupL, ↓gl_tupT, ↓gl_lstL, ↓gl_lstT, ↓gl_rep, ↓gl_sortD, ↓gl_sortL, ↓ngI, ↓slL, ↓slT, ↓slS, ↓bo, ↓io, ↓av0, ↓av1, ↓itL, ↓itT, ↓it0, ↓it1, ↓it2, ↓itB, ↓rtB, ↓rt_v, ↓g_ninI, ↓g_inI, ↓w_Lc, ↓w_LcM, ↓turn_nx, wipeL_cons, wipeL_nil, ↓sw0, ↓sw1, ↓sw2, ↓gix2, ↓app0, ↓app1, ↓app2, ↓appB, ↓isL0, ↓isL1, ↓isL2, ↓isLB, ↓isLv, ↓at_head, ↓v0, ↓v1, ↓v2, ↓v3, ↓v4, ↓v5, ↓v6, ↓v7, ↓v8, ↓v9, ↓v10, ↓v11, ↓v12, ↓v13, ↓v14, ↓v15, ↓v16, ↓v17, ↓t0, ↓t1, ↓t2, ↓t3, ↓t4, ↓t5, ↓t6, ↓t7, ↓t8, ↓setAll0, ↓setAll1, List.set_cons_zero, List.set_cons_succ, decide_eq_true_eq, Bool.not_eq_true', decide_eq_false_iff_not]
      refine end0 (k _ ?_)
      rw [if_neg (by
        rintro (q | q)
        · omega
        · exact hc q)]
      exact ⟨lo, rfl, h1, by omega⟩
end K61

namespace K61
open PySem PySem.Spec PyProof.Rows L2 Dn
structure Lamp where
  (x z : Int) (sh : List Str) (s : Int)
def Lamp.v (l : Lamp) : PV := .tup [.int l.x, .int l.z, .tup (l.sh.map PV.str), .int l.s]
theorem w_rows {S : Sto} {ls : List Lamp} {sp : Int} {Q : RV → Sto → Prop} (hl : ls.length ≤ 1000) (k : ∀ rs : List Int, rs.length = ls.length → (∀ r ∈ rs, 0 ≤ r) → Q (.v (.lst (rs.map PV.int))) S) : WC c__law_rows [.v (.lst (ls.map Lamp.v)), .v (.int sp)] S Q := by
  refine wc_d rfl ?_
  unfold m__law_rows d__law_rows_1 d__law_rows_2
  show W _ [some (.v (.lst (ls.map Lamp.v))), some (.v (.int sp)), none, none, none, none, none] _ _
  simp only [↓w_c, ↓w_e2, ↓we1', ↓p_v, ↓pr0, ↓pr1, ↓pr2, ↓pr3, ↓prA, ↓prB, ↓poL, ↓poD, ↓wB', ↓wt_N, ↓wt_An, ↓wt_Or, ↓wt_Ye, ↓w_Bo, ↓w_An, ↓w_Or, ↓w_If, ↓ws_If, ↓wa_Nil, ↓wa_Cons, ↓wTup', ↓wLst', ↓wLstM', ↓w_Dct, ↓w_DctM, ↓w_B, ↓w_Call, ↓wMt', ↓pl_nil, ↓pl_cons, ↓wc_P, ↓wc_M, ↓wSl', ↓wo_No, ↓woS', ↓wRlv, ↓wRlm, ↓ws_Nil, ↓ws_Cons, ↓then_nx, ↓then_rt, ↓ws_Asg, ↓wg_Nm, ↓wg_Tp, ↓wgs_Nil, ↓wgs_Cons, ↓wgSb', ↓ws_Par, ↓aug0, ↓aug1, ↓aug2, ↓aug3, ↓aug4, ↓aug5, ↓aug6, ↓aug7, ↓aug8, ↓aug9, ↓aug10, ↓aug11, ↓aug12, ↓aug13, ↓aug14, ↓aug15, ↓aug16, ↓aug17, ↓wAugS', ↓ws_Ret, ↓ws_RetT, ↓ws_Drop, ↓ws_For, ↓wSq', ↓wRg', ↓rg1, ↓rg2, ↓rg3, ↓rl1, ↓rl2, ↓rl3, ↓wEn', ↓enV, ↓wZp', ↓zpVV, ↓zpVB, ↓g_add, ↓g_addL, ↓g_addT, ↓g_iadd, ↓g_sub, ↓g_mul, ↓g_mulL, ↓g_fdiv, ↓g_mod, ↓g_pow, ↓g_lt, ↓g_le, ↓g_gt, ↓g_ge, ↓g_eqI, ↓g_neI, ↓g_is, ↓g_isnt, ↓g_ixT, ↓g_ixL, ↓g_ixD, ↓gl_abs, ↓gl_max, ↓gl_min, ↓gl_int, ↓gl_intB, ↓gl_gcd, ↓gl_lenL, ↓gl_lenT, ↓gl_tupL, ↓gl_tupT, ↓gl_lstL, ↓gl_lstT, ↓gl_rep, ↓gl_sortD, ↓gl_sortL, ↓ngI, ↓slL, ↓slT, ↓slS, ↓bo, ↓io, ↓av0, ↓av1, ↓itL, ↓itT, ↓it0, ↓it1, ↓it2, ↓itB, ↓rtB, ↓rt_v, ↓g_ninI, ↓g_inI, ↓w_Lc, ↓w_LcM, ↓turn_nx, wipeL_cons, wipeL_nil, ↓sw0, ↓sw1, ↓sw2, ↓gix2, ↓app0, ↓app1, ↓app2, ↓appB, ↓isL0, ↓isL1, ↓isL2, ↓isLB, ↓isLv, ↓at_head, ↓v0, ↓v1, ↓v2, ↓v3, ↓v4, ↓v5, ↓v6, ↓v7, ↓v8, ↓v9, ↓v10, ↓v11, ↓v12, ↓v13, ↓v14, ↓v15, ↓v16, ↓v17, ↓t0, ↓t1, ↓t2, ↓t3, ↓t4, ↓t5, ↓t6, ↓t7, ↓t8, ↓setAll0, ↓setAll1, List.set_cons_zero, List.set_cons_succ, decide_eq_true_eq, Bool.not_eq_true', decide_eq_false_iff_not]
  refine ⟨by decide, wf_inv (fun i r S' => ∃ (rs : List Int) (a b c d : Option RV), rs.length = i ∧ i ≤ ls.length ∧ (∀ q ∈ rs, 0 ≤ q) ∧ S' = S ++ [.lst (rs.map PV.int)] ∧ r = [some (.v (.lst (ls.map Lamp.v))), some (.v (.int sp)), some (.ref S.length), a, b, c, d]) ⟨[], _, _, _, _, rfl, by omega, by simp, rfl, rfl⟩ ?_ ?_⟩
  · rintro i x r S' hx ⟨rs, a, b, c, d, hi, hi2, hpos, rfl, rfl⟩
    refine ⟨ok_nil _, ?_⟩
    rw [List.getElem?_map] at hx
    obtain ⟨lamp, hlamp, rfl⟩ := Option.map_eq_some_iff.mp hx
    have hlt : i < ls.length := (List.getElem?_eq_some_iff.mp hlamp).1
    unfold b__law_rows_1 b__law_rows_1_1
    simp only [↓w_c, ↓w_e2, ↓we1', ↓p_v, ↓pr0, ↓pr1, ↓pr2, ↓pr3, ↓prA, ↓prB, ↓poL, ↓poD, ↓wB', ↓wt_N, ↓wt_An, ↓wt_Or, ↓wt_Ye, ↓w_Bo, ↓w_An, ↓w_Or, ↓w_If, ↓ws_If, ↓wa_Nil, ↓wa_Cons, ↓wTup', ↓wLst', ↓wLstM', ↓w_Dct, ↓w_DctM, ↓w_B, ↓w_Call, ↓wMt', ↓pl_nil, ↓pl_cons, ↓wc_P, ↓wc_M, ↓wSl', ↓wo_No, ↓woS', ↓wRlv, ↓wRlm, ↓ws_Nil, ↓ws_Cons, ↓then_nx, ↓then_rt, ↓ws_Asg, ↓wg_Nm, ↓wg_Tp, ↓wgs_Nil, ↓wgs_Cons, ↓wgSb', ↓ws_Par, ↓aug0, ↓aug1, ↓aug2, ↓aug3, ↓aug4, ↓aug5, ↓aug6, ↓aug7, ↓aug8, ↓aug9, ↓aug10, ↓aug11, ↓aug12, ↓aug13, ↓aug14, ↓aug15, ↓aug16, ↓aug17, ↓wAugS', ↓ws_Ret, ↓ws_RetT, ↓ws_Drop, ↓ws_For, ↓wSq', ↓wRg', ↓rg1, ↓rg2, ↓rg3, ↓rl1, ↓rl2, ↓rl3, ↓wEn', ↓enV, ↓wZp', ↓zpVV, ↓zpVB, ↓g_add, ↓g_addL, ↓g_addT, ↓g_iadd, ↓g_sub, ↓g_mul, ↓g_mulL, ↓g_fdiv, ↓g_mod, ↓g_pow, ↓g_lt, ↓g_le, ↓g_gt, ↓g_ge, ↓g_eqI, ↓g_neI, ↓g_is, ↓g_isnt, ↓g_ixT, ↓g_ixL, ↓g_ixD, ↓gl_abs, ↓gl_max, ↓gl_min, ↓gl_int, ↓gl_intB, ↓gl_gcd, ↓gl_lenL, ↓gl_lenT, ↓gl_tupL, ↓gl_tupT, ↓gl_lstL, ↓gl_lstT, ↓gl_rep, ↓gl_sortD, ↓gl_sortL, ↓ngI, ↓slL, ↓slT, ↓slS, ↓bo, ↓io, ↓av0, ↓av1, ↓itL, ↓itT, ↓it0, ↓it1, ↓it2, ↓itB, ↓rtB, ↓rt_v, ↓g_ninI, ↓g_inI, ↓w_Lc, ↓w_LcM, ↓turn_nx, wipeL_cons, wipeL_nil, ↓sw0, ↓sw1, ↓sw2, ↓gix2, ↓app0, ↓app1, ↓app2, ↓appB, ↓isL0, ↓isL1, ↓isL2, ↓isLB, ↓isLv, ↓at_head, ↓v0, ↓v1, ↓v2, ↓v3, ↓v4, ↓v5, ↓v6, ↓v7, ↓v8, ↓v9, ↓v10, ↓v11, ↓v12, ↓v13, ↓v14, ↓v15, ↓v16, ↓v17, ↓t0, ↓t1, ↓t2, ↓t3, ↓t4, ↓t5, ↓t6, ↓t7, ↓t8, ↓setAll0, ↓setAll1, List.set_cons_zero, List.set_cons_succ, decide_eq_true_eq, Bool.not_eq_true', decide_eq_false_iff_not]
    refine ⟨?_, ?_⟩
    · rw [small_of]
      have := zip_le (ls.map Lamp.v) (rs.map PV.int)
      rw [List.length_map] at this
      omega
    refine wl_inv (fun j acc S' => S' = S ++ [.lst (rs.map PV.int)] ∧ ∃ ts : List Int, acc = ts.map PV.int ∧ ts.length ≤ j) ⟨rfl, [], rfl, Nat.le_refl _⟩ ?_ ?_
    · rintro j z acc S' hz ⟨rfl, ts, rfl, hts⟩
      refine ⟨okB, ?_⟩
      obtain ⟨u, w, hu, hw, rfl⟩ := zip_mem (List.mem_of_getElem? hz)
      obtain ⟨l2, _, rfl⟩ := List.mem_map.mp hu
      obtain ⟨q, _, rfl⟩ := List.mem_map.mp hw
      unfold Lamp.v
      simp only [↓w_c, ↓w_e2, ↓we1', ↓p_v, ↓pr0, ↓pr1, ↓pr2, ↓pr3, ↓prA, ↓prB, ↓poL, ↓poD, ↓wB', ↓wt_N, ↓wt_An, ↓wt_Or, ↓wt_Ye, ↓w_Bo, ↓w_An, ↓w_Or, ↓w_If, ↓ws_If, ↓wa_Nil, ↓wa_Cons, ↓wTup', ↓wLst', ↓wLstM', ↓w_Dct, ↓w_DctM, ↓w_B, ↓w_Call, ↓wMt', ↓pl_nil, ↓pl_cons, ↓wc_P, ↓wc_M, ↓wSl', ↓wo_No, ↓woS', ↓wRlv, ↓wRlm, ↓ws_Nil, ↓ws_Cons, ↓then_nx, ↓then_rt, ↓ws_Asg, ↓wg_Nm, ↓wg_Tp, ↓wgs_Nil, ↓wgs_Cons, ↓wgSb', ↓ws_Par, ↓aug0, ↓aug1, ↓aug2, ↓aug3, ↓aug4, ↓aug5, ↓aug6, ↓aug7, ↓aug8, ↓aug9, ↓aug10, ↓aug11, ↓aug12, ↓aug13, ↓aug14, ↓aug15, ↓aug16, ↓aug17, ↓wAugS', ↓ws_Ret, ↓ws_RetT, ↓ws_Drop, ↓ws_For, ↓wSq', ↓wRg', ↓rg1, ↓rg2, ↓rg3, ↓rl1, ↓rl2, ↓rl3, ↓wEn', ↓enV, ↓wZp', ↓zpVV, ↓zpVB, ↓g_add, ↓g_addL, ↓g_addT, ↓g_iadd, ↓g_sub, ↓g_mul, ↓g_mulL, ↓g_fdiv, ↓g_mod, ↓g_pow, ↓g_lt, ↓g_le, ↓g_gt, ↓g_ge, ↓g_eqI, ↓g_neI, ↓g_is, ↓g_isnt, ↓g_ixT, ↓g_ixL, ↓g_ixD, ↓gl_abs, ↓gl_max, ↓gl_min, ↓gl_int, ↓gl_intB, ↓gl_gcd, ↓gl_lenL, ↓gl_lenT, ↓gl_tupL, ↓gl_tupT, ↓gl_lstL, ↓gl_lstT, ↓gl_rep, ↓gl_sortD, ↓gl_sortL, ↓ngI, ↓slL, ↓slT, ↓slS, ↓bo, ↓io, ↓av0, ↓av1, ↓itL, ↓itT, ↓it0, ↓it1, ↓it2, ↓itB, ↓rtB, ↓rt_v, ↓g_ninI, ↓g_inI, ↓w_Lc, ↓w_LcM, ↓turn_nx, wipeL_cons, wipeL_nil, ↓sw0, ↓sw1, ↓sw2, ↓gix2, ↓app0, ↓app1, ↓app2, ↓appB, ↓isL0, ↓isL1, ↓isL2, ↓isLB, ↓isLv, ↓at_head, ↓v0, ↓v1, ↓v2, ↓v3, ↓v4, ↓v5, ↓v6, ↓v7, ↓v8, ↓v9, ↓v10, ↓v11, ↓v12, ↓v13, ↓v14, ↓v15, ↓v16, ↓v17, ↓t0, ↓t1, ↓t2, ↓t3, ↓t4, ↓t5, ↓t6, ↓t7, ↓t8, ↓setAll0, ↓setAll1, List.set_cons_zero, List.set_cons_succ, decide_eq_true_eq, Bool.not_eq_true', decide_eq_false_iff_not]
      refine ⟨rfl, ?_⟩
      generalize (if l2.x - lamp.x < 0 then -(l2.x - lamp.x) else l2.x - lamp.x) = av
      by_cases hav : av < sp
      · rw [if_pos hav]
        exact ⟨.int q, rfl, trivial, ts ++ [q], by simp, by simp; omega⟩
      · rw [if_neg hav]
        exact ⟨trivial, ts, rfl, by omega⟩
    · rintro acc S' ⟨rfl, ts, rfl, hts⟩
      refine ⟨okB, ?_⟩
      have hts' : ts.length ≤ i := by
        have := zip_le (ls.map Lamp.v) (rs.map PV.int)
        rw [List.length_map] at this
        omega
      simp only [↓w_c, ↓w_e2, ↓we1', ↓p_v, ↓pr0, ↓pr1, ↓pr2, ↓pr3, ↓prA, ↓prB, ↓poL, ↓poD, ↓wB', ↓wt_N, ↓wt_An, ↓wt_Or, ↓wt_Ye, ↓w_Bo, ↓w_An, ↓w_Or, ↓w_If, ↓ws_If, ↓wa_Nil, ↓wa_Cons, ↓wTup', ↓wLst', ↓wLstM', ↓w_Dct, ↓w_DctM, ↓w_B, ↓w_Call, ↓wMt', ↓pl_nil, ↓pl_cons, ↓wc_P, ↓wc_M, ↓wSl', ↓wo_No, ↓woS', ↓wRlv, ↓wRlm, ↓ws_Nil, ↓ws_Cons, ↓then_nx, ↓then_rt, ↓ws_Asg, ↓wg_Nm, ↓wg_Tp, ↓wgs_Nil, ↓wgs_Cons, ↓wgSb', ↓ws_Par, ↓aug0, ↓aug1, ↓aug2, ↓aug3, ↓aug4, ↓aug5, ↓aug6, ↓aug7, ↓aug8, ↓aug9, ↓aug10, ↓aug11, ↓aug12, ↓aug13, ↓aug14, ↓aug15, ↓aug16, ↓aug17, ↓wAugS', ↓ws_Ret, ↓ws_RetT, ↓ws_Drop, ↓ws_For, ↓wSq', ↓wRg', ↓rg1, ↓rg2, ↓rg3, ↓rl1, ↓rl2, ↓rl3, ↓wEn', ↓enV, ↓wZp', ↓zpVV, ↓zpVB, ↓g_add, ↓g_addL, ↓g_addT, ↓g_iadd, ↓g_sub, ↓g_mul, ↓g_mulL, ↓g_fdiv, ↓g_mod, ↓g_pow, ↓g_lt, ↓g_le, ↓g_gt, ↓g_ge, ↓g_eqI, ↓g_neI, ↓g_is, ↓g_isnt, ↓g_ixT, ↓g_ixL, ↓g_ixD, ↓gl_abs, ↓gl_max, ↓gl_min, ↓gl_int, ↓gl_intB, ↓gl_gcd, ↓gl_lenL, ↓gl_lenT, ↓gl_tupL, ↓gl_tupT, ↓gl_lstL, ↓gl_lstT, ↓gl_rep, ↓gl_sortD, ↓gl_sortL, ↓ngI, ↓slL, ↓slT, ↓slS, ↓bo, ↓io, ↓av0, ↓av1, ↓itL, ↓itT, ↓it0, ↓it1, ↓it2, ↓itB, ↓rtB, ↓rt_v, ↓g_ninI, ↓g_inI, ↓w_Lc, ↓w_LcM, ↓turn_nx, wipeL_cons, wipeL_nil, ↓sw0, ↓sw1, ↓sw2, ↓gix2, ↓app0, ↓app1, ↓app2, ↓appB, ↓isL0, ↓isL1, ↓isL2, ↓isLB, ↓isLv, ↓at_head, ↓v0, ↓v1, ↓v2, ↓v3, ↓v4, ↓v5, ↓v6, ↓v7, ↓v8, ↓v9, ↓v10, ↓v11, ↓v12, ↓v13, ↓v14, ↓v15, ↓v16, ↓v17, ↓t0, ↓t1, ↓t2, ↓t3, ↓t4, ↓t5, ↓t6, ↓t7, ↓t8, ↓setAll0, ↓setAll1, List.set_cons_zero, List.set_cons_succ, decide_eq_true_eq, Bool.not_eq_true', decide_eq_false_iff_not]
      have hn : (↑(ls.map Lamp.v).length + 1 : Int).toNat = ls.length + 1 := by
        rw [List.length_map]
        omega
      rw [hn]
      refine ⟨trivial, big_of (by omega) (by rw [List.length_map]; omega), by rw [small_of, rngV_length]; omega, ?_⟩
      refine wl_pure (fun x => match x with
        | .int i => !decide (i ∈ ts)
        | _ => true) (fun x => x) (ok_nil _) ?_ ?_
      · intro x hx
        obtain ⟨m, hm⟩ := List.getElem?_of_mem hx
        obtain ⟨_, rfl⟩ := rngV_get hm
        simp only [↓w_c, ↓w_e2, ↓we1', ↓p_v, ↓pr0, ↓pr1, ↓pr2, ↓pr3, ↓prA, ↓prB, ↓poL, ↓poD, ↓wB', ↓wt_N, ↓wt_An, ↓wt_Or, ↓wt_Ye, ↓w_Bo, ↓w_An, ↓w_Or, ↓w_If, ↓ws_If, ↓wa_Nil, ↓wa_Cons, ↓wTup', ↓wLst', ↓wLstM', ↓w_Dct, ↓w_DctM, ↓w_B, ↓w_Call, ↓wMt', ↓pl_nil, ↓pl_cons, ↓wc_P, ↓wc_M, ↓wSl', ↓wo_No, ↓woS', ↓wRlv, ↓wRlm, ↓ws_Nil, ↓ws_Cons, ↓then_nx, ↓then_rt, ↓ws_Asg, ↓wg_Nm, ↓wg_Tp, ↓wgs_Nil, ↓wgs_Cons, ↓wgSb', ↓ws_Par, ↓aug0, ↓aug1, ↓aug2, ↓aug3, ↓aug4, ↓aug5, ↓aug6, ↓aug7, ↓aug8, ↓aug9, ↓aug10, ↓aug11, ↓aug12, ↓aug13, ↓aug14, ↓aug15, ↓aug16, ↓aug17, ↓wAugS', ↓ws_Ret, ↓ws_RetT, ↓ws_Drop, ↓ws_For, ↓wSq', ↓wRg', ↓rg1, ↓rg2, ↓rg3, ↓rl1, ↓rl2, ↓rl3, ↓wEn', ↓enV, ↓wZp', ↓zpVV, ↓zpVB, ↓g_add, ↓g_addL, ↓g_addT, ↓g_iadd, ↓g_sub, ↓g_mul, ↓g_mulL, ↓g_fdiv, ↓g_mod, ↓g_pow, ↓g_lt, ↓g_le, ↓g_gt, ↓g_ge, ↓g_eqI, ↓g_neI, ↓g_is, ↓g_isnt, ↓g_ixT, ↓g_ixL, ↓g_ixD, ↓gl_abs, ↓gl_max, ↓gl_min, ↓gl_int, ↓gl_intB, ↓gl_gcd, ↓gl_lenL, ↓gl_lenT, ↓gl_tupL, ↓gl_tupT, ↓gl_lstL, ↓gl_lstT, ↓gl_rep, ↓gl_sortD, ↓gl_sortL, ↓ngI, ↓slL, ↓slT, ↓slS, ↓bo, ↓io, ↓av0, ↓av1, ↓itL, ↓itT, ↓it0, ↓it1, ↓it2, ↓itB, ↓rtB, ↓rt_v, ↓g_ninI, ↓g_inI, ↓w_Lc, ↓w_LcM, ↓turn_nx, wipeL_cons, wipeL_nil, ↓sw0, ↓sw1, ↓sw2, ↓gix2, ↓app0, ↓app1, ↓app2, ↓appB, ↓isL0, ↓isL1, ↓isL2, ↓isLB, ↓isLv, ↓at_head, ↓v0, ↓v1, ↓v2, ↓v3, ↓v4, ↓v5, ↓v6, ↓v7, ↓v8, ↓v9, ↓v10, ↓v11, ↓v12, ↓v13, ↓v14, ↓v15, ↓v16, ↓v17, ↓t0, ↓t1, ↓t2, ↓t3, ↓t4, ↓t5, ↓t6, ↓t7, ↓t8, ↓setAll0, ↓setAll1, List.set_cons_zero, List.set_cons_succ, decide_eq_true_eq, Bool.not_eq_true', decide_eq_false_iff_not]
        exact ⟨trivial, trivial, fun _ => ⟨trivial, trivial⟩⟩
      · rw [List.map_id']
        refine at_head_of ?_ ?_
        · intro hnil
          have h1 : ∀ m : Nat, m < ls.length + 1 → (m : Int) ∈ ts := by
            intro m hm
            have h2 : PV.int (m : Int) ∈ rngV 0 (ls.length + 1) := by
              unfold rngV
              exact List.mem_map.mpr ⟨m, List.mem_range.mpr hm, by rw [Int.zero_add]⟩
            have h3 := List.filter_eq_nil_iff.mp hnil _ h2
            simpa using h3
          have := php _ ts h1
          omega
        · intro x hx
          obtain ⟨h1, h2⟩ := List.mem_filter.mp hx
          obtain ⟨m, hm⟩ := List.getElem?_of_mem h1
          obtain ⟨_, rfl⟩ := rngV_get hm
          simp only [↓w_c, ↓w_e2, ↓we1', ↓p_v, ↓pr0, ↓pr1, ↓pr2, ↓pr3, ↓prA, ↓prB, ↓poL, ↓poD, ↓wB', ↓wt_N, ↓wt_An, ↓wt_Or, ↓wt_Ye, ↓w_Bo, ↓w_An, ↓w_Or, ↓w_If, ↓ws_If, ↓wa_Nil, ↓wa_Cons, ↓wTup', ↓wLst', ↓wLstM', ↓w_Dct, ↓w_DctM, ↓w_B, ↓w_Call, ↓wMt', ↓pl_nil, ↓pl_cons, ↓wc_P, ↓wc_M, ↓wSl', ↓wo_No, ↓woS', ↓wRlv, ↓wRlm, ↓ws_Nil, ↓ws_Cons, ↓then_nx, ↓then_rt, ↓ws_Asg, ↓wg_Nm, ↓wg_Tp, ↓wgs_Nil, ↓wgs_Cons, ↓wgSb', ↓ws_Par, ↓aug0, ↓aug1, ↓aug2, ↓aug3, ↓aug4, ↓aug5, ↓aug6, ↓aug7, ↓aug8, ↓aug9, ↓aug10, ↓aug11, ↓aug12, ↓aug13, ↓aug14, ↓aug15, ↓aug16, ↓aug17, ↓wAugS', ↓ws_Ret, ↓ws_RetT, ↓ws_Drop, ↓ws_For, ↓wSq', ↓wRg', ↓rg1, ↓rg2, ↓rg3, ↓rl1, ↓rl2, ↓rl3, ↓wEn', ↓enV, ↓wZp', ↓zpVV, ↓zpVB, ↓g_add, ↓g_addL, ↓g_addT, ↓g_iadd, ↓g_sub, ↓g_mul, ↓g_mulL, ↓g_fdiv, ↓g_mod, ↓g_pow, ↓g_lt, ↓g_le, ↓g_gt, ↓g_ge, ↓g_eqI, ↓g_neI, ↓g_is, ↓g_isnt, ↓g_ixT, ↓g_ixL, ↓g_ixD, ↓gl_abs, ↓gl_max, ↓gl_min, ↓gl_int, ↓gl_intB, ↓gl_gcd, ↓gl_lenL, ↓gl_lenT, ↓gl_tupL, ↓gl_tupT, ↓gl_lstL, ↓gl_lstT, ↓gl_rep, ↓gl_sortD, ↓gl_sortL, ↓ngI, ↓slL, ↓slT, ↓slS, ↓bo, ↓io, ↓av0, ↓av1, ↓itL, ↓itT, ↓it0, ↓it1, ↓it2, ↓itB, ↓rtB, ↓rt_v, ↓g_ninI, ↓g_inI, ↓w_Lc, ↓w_LcM, ↓turn_nx, wipeL_cons, wipeL_nil, ↓sw0, ↓sw1, ↓sw2, ↓gix2, ↓app0, ↓app1, ↓app2, ↓appB, ↓isL0, ↓isL1, ↓isL2, ↓isLB, ↓isLv, ↓at_head, ↓v0, ↓v1, ↓v2, ↓v3, ↓v4, ↓v5, ↓v6, ↓v7, ↓v8, ↓v9, ↓v10, ↓v11, ↓v12, ↓v13, ↓v14, ↓v15, ↓v16, ↓v17, ↓t0, ↓t1, ↓t2, ↓t3, ↓t4, ↓t5, ↓t6, ↓t7, ↓t8, ↓setAll0, ↓setAll1, List.set_cons_zero, List.set_cons_succ, decide_eq_true_eq, Bool.not_eq_true', decide_eq_false_iff_not]
          refine ⟨by rw [List.length_map]; omega, rs ++ [0 + (m : Int)], _, _, _, _, by simp [hi], hlt, ?_, by simp, rfl⟩
          intro q hq
          rcases List.mem_append.mp hq with hq | hq
          · exact hpos q hq
          · have : q = 0 + (m : Int) := by simpa using hq
            omega
  · rintro r S' ⟨rs, a, b, c, d, hi, hi2, hpos, rfl, rfl⟩
    refine ⟨ok_nil _, ?_⟩
    simp only [↓w_c, ↓w_e2, ↓we1', ↓p_v, ↓pr0, ↓pr1, ↓pr2, ↓pr3, ↓prA, ↓prB, ↓poL, ↓poD, ↓wB', ↓wt_N, ↓wt_An, ↓wt_Or, ↓wt_Ye, ↓w_Bo, ↓w_An, ↓w_Or, ↓w_If, ↓ws_If, ↓wa_Nil, ↓wa_Cons, ↓wTup', ↓wLst', ↓wLstM', ↓w_Dct, ↓w_DctM, ↓w_B, ↓w_Call, ↓wMt', ↓pl_nil, ↓pl_cons, ↓wc_P, ↓wc_M, ↓wSl', ↓wo_No, ↓woS', ↓wRlv, ↓wRlm, ↓ws_Nil, ↓ws_Cons, ↓then_nx, ↓then_rt, ↓ws_Asg, ↓wg_Nm, ↓wg_Tp, ↓wgs_Nil, ↓wgs_Cons, ↓wgSb', ↓ws_Par, ↓aug0, ↓aug1, ↓aug2, ↓aug3, ↓aug4, ↓aug5, ↓aug6, ↓aug7, ↓aug8, ↓aug9, ↓aug10, ↓aug11, ↓aug12, ↓aug13, ↓aug14, ↓aug15, ↓aug16, ↓aug17, ↓wAugS', ↓ws_Ret, ↓ws_RetT, ↓ws_Drop, ↓ws_For, ↓wSq', ↓wRg', ↓rg1, ↓rg2, ↓rg3, ↓rl1, ↓rl2, ↓rl3, ↓wEn', ↓enV, ↓wZp', ↓zpVV, ↓zpVB, ↓g_add, ↓g_addL, ↓g_addT, ↓g_iadd, ↓g_sub, ↓g_mul, ↓g_mulL, ↓g_fdiv, ↓g_mod, ↓g_pow, ↓g_lt, ↓g_le, ↓g_gt, ↓g_ge, ↓g_eqI, ↓g_neI, ↓g_is, ↓g_isnt, ↓g_ixT, ↓g_ixL, ↓g_ixD, ↓gl_abs, ↓gl_max, ↓gl_min, ↓gl_int, ↓gl_intB, ↓gl_gcd, ↓gl_lenL, ↓gl_lenT, ↓gl_tupL, ↓gl_tupT, ↓gl_lstL, ↓gl_lstT, ↓gl_rep, ↓gl_sortD, ↓gl_sortL, ↓ngI, ↓slL, ↓slT, ↓slS, ↓bo, ↓io, ↓av0, ↓av1, ↓itL, ↓itT, ↓it0, ↓it1, ↓it2, ↓itB, ↓rtB, ↓rt_v, ↓g_ninI, ↓g_inI, ↓w_Lc, ↓w_LcM, ↓turn_nx, wipeL_cons, wipeL_nil, ↓sw0, ↓sw1, ↓sw2, ↓gix2, ↓app0, ↓app1, ↓app2, ↓appB, ↓isL0, ↓isL1, ↓isL2, ↓isLB, ↓isLv, ↓at_head, ↓v0, ↓v1, ↓v2, ↓v3, ↓v4, ↓v5, ↓v6, ↓v7, ↓v8, ↓v9, ↓v10, ↓v11, ↓v12, ↓v13, ↓v14, ↓v15, ↓v16, ↓v17, ↓t0, ↓t1, ↓t2, ↓t3, ↓t4, ↓t5, ↓t6, ↓t7, ↓t8, ↓setAll0, ↓setAll1, List.set_cons_zero, List.set_cons_succ, decide_eq_true_eq, Bool.not_eq_true', decide_eq_false_iff_not]
    exact k rs (by rw [hi, List.length_map]) hpos
end K61

namespace K61
open PySem PySem.Spec PyProof.Rows L2 Dn
def shadeL : List (List Str) := [["red"], ["red", "blue"], ["gold", "gold"], ["blue", "red", "dark"]]
theorem shade_of {x : PV} (h : x ∈ [PV.tup [.str ("red" : Str)], .tup [.str ("red" : Str), .str ("blue" : Str)], .tup [.str ("gold" : Str), .str ("gold" : Str)], .tup [.str ("blue" : Str), .str ("red" : Str), .str ("dark" : Str)]]) : ∃ s ∈ shadeL, x = .tup (s.map PV.str) := by
  simp only [List.mem_cons, List.not_mem_nil, or_false] at h
  rcases h with h | h | h | h
  · exact ⟨["red"], by simp [shadeL], h⟩
  · exact ⟨["red", "blue"], by simp [shadeL], h⟩
  · exact ⟨["gold", "gold"], by simp [shadeL], h⟩
  · exact ⟨["blue", "red", "dark"], by simp [shadeL], h⟩
structure Lamp.Ok (l : Lamp) : Prop where
  x : 0 ≤ l.x ∧ l.x ≤ 60
  z : 0 ≤ l.z ∧ l.z ≤ 3
  sh : l.sh ∈ shadeL
  s : 0 ≤ l.s ∧ l.s ≤ 3
def Lamp.key (l : Lamp) : PV := .tup [.int l.x, .int l.z]
theorem key_eq (l m : Lamp) : keyEq l.key m.key = decide (l.x = m.x ∧ l.z = m.z) := by
  show keyEq (.tup (([.inl l.x, .inl l.z] : List Key).map keyPV)) (.tup (([.inl m.x, .inl m.z] : List Key).map keyPV)) = _
  rw [keyEq_t]
  by_cases h : l.x = m.x ∧ l.z = m.z
  · rw [decide_eq_true h, decide_eq_true (by rw [h.1, h.2])]
  · rw [decide_eq_false h, decide_eq_false]
    intro e
    injection e with e1 e2
    injection e2 with e2 _
    exact h ⟨Sum.inl.inj e1, Sum.inl.inj e2⟩
theorem put_lamp (l : Lamp) (ls : List Lamp) : ∃ ls' : List Lamp, putP l.key l.v (ls.map Lamp.key) (ls.map Lamp.v) = (ls'.map Lamp.key, ls'.map Lamp.v) ∧ ls'.length ≤ ls.length + 1 ∧ ∀ m ∈ ls', m ∈ ls ∨ m = l := by
  unfold putP
  split
  · refine ⟨ls.map fun m => if m.x = l.x ∧ m.z = l.z then l else m, ?_, by simp, fun m hm => ?_⟩
    · have h1 : ∀ ls : List Lamp, (ls.map fun m => if m.x = l.x ∧ m.z = l.z then l else m).map Lamp.key = ls.map Lamp.key := by
        intro ls
        rw [List.map_map]
        apply List.map_congr_left
        intro m _
        show Lamp.key (if m.x = l.x ∧ m.z = l.z then l else m) = m.key
        split
        · rename_i h
          unfold Lamp.key
          rw [h.1, h.2]
        · rfl
      have h2 : ∀ ls : List Lamp, setV l.key l.v (ls.map Lamp.key) (ls.map Lamp.v) = (ls.map fun m => if m.x = l.x ∧ m.z = l.z then l else m).map Lamp.v := by
        intro ls
        induction ls with
        | nil => rfl
        | cons m ls ih =>
          show (if keyEq m.key l.key = true then l.v else m.v) :: setV l.key l.v (ls.map Lamp.key) (ls.map Lamp.v) = (if m.x = l.x ∧ m.z = l.z then l else m).v :: _
          rw [ih, key_eq]
          by_cases h : m.x = l.x ∧ m.z = l.z
          · rw [if_pos (decide_eq_true h), if_pos h]
          · rw [if_neg (by rw [decide_eq_false h]; exact Bool.false_ne_true), if_neg h]
      rw [h1, h2]
    · obtain ⟨q, hq, rfl⟩ := List.mem_map.mp hm
      split
      · exact .inr rfl
      · exact .inl hq
  · exact ⟨ls ++ [l], by simp, by simp, fun m hm => by simpa using hm⟩
theorem look_lamp (k : Lamp) : ∀ (ls : List Lamp), k.key ∈ ls.map Lamp.key → ∃ m ∈ ls, lookP k.key (ls.map Lamp.key) (ls.map Lamp.v) = some m.v
  | [], h => by simp at h
  | m :: ls, h => by
    show ∃ m' ∈ m :: ls, (if keyEq m.key k.key = true then some m.v else lookP k.key (ls.map Lamp.key) (ls.map Lamp.v)) = some m'.v
    by_cases e : keyEq m.key k.key = true
    · exact ⟨m, List.mem_cons_self, if_pos e⟩
    · have h' : k.key ∈ ls.map Lamp.key := by
        rw [List.map_cons] at h
        rcases List.mem_cons.mp h with h | h
        · exfalso
          apply e
          rw [key_eq]
          unfold Lamp.key at h
          injection h with h
          injection h with h1 h2
          injection h2 with h2 _
          injection h1 with h1
          injection h2 with h2
          exact decide_eq_true ⟨h1.symm, h2.symm⟩
        · exact h
      obtain ⟨q, hq, hl⟩ := look_lamp k ls h'
      exact ⟨q, List.mem_cons_of_mem _ hq, by rw [if_neg e]; exact hl⟩
theorem keys_plain : ∀ ls : List Lamp, plainL (ls.map Lamp.key) = true ∧ depL (ls.map Lamp.key) ≤ 1
  | [] => ⟨rfl, Nat.zero_le _⟩
  | l :: ls => by
    obtain ⟨h1, h2⟩ := keys_plain ls
    refine ⟨?_, ?_⟩
    · show (plainP l.key && plainL (ls.map Lamp.key)) = true
      rw [h1]
      rfl
    · show max (dep l.key) (depL (ls.map Lamp.key)) ≤ 1
      have : dep l.key = 1 := rfl
      omega
theorem keys_sort {ls : List Lamp} (h : ls.length ≤ 1000) : sortOk (ls.map Lamp.key) = true := by
  obtain ⟨h1, h2⟩ := keys_plain ls
  unfold sortOk
  simp only [Bool.and_eq_true, Bool.or_eq_true, decide_eq_true_eq, List.all_eq_true]
  refine ⟨⟨h1, by omega, by rw [small_of, List.length_map]; omega⟩, ?_, .inl ?_⟩
  · intro a ha b hb
    obtain ⟨x, _, rfl⟩ := List.mem_map.mp ha
    obtain ⟨y, _, rfl⟩ := List.mem_map.mp hb
    rfl
  · intro a ha
    obtain ⟨x, _, rfl⟩ := List.mem_map.mp ha
    rfl
theorem endA {o o1 : SO} {R : Sto} {Q : Sto → Prop} (q : Q (o :: R)) : R.length + 1 ≤ (o :: (R ++ [o1])).length ∧ Q (List.take (R.length + 1) (o :: (R ++ [o1]))) := by
  rw [show List.take (R.length + 1) (o :: (R ++ [o1])) = o :: R by simp]
  exact ⟨by simp, q⟩
theorem w_picture {R : Sto} {o : SO} {sp deep most : Int} {Q : RV → Sto → Prop} (hB : BagO o) (hs : 4 ≤ sp ∧ sp ≤ 20) (hm : 0 ≤ most ∧ most ≤ 6) (k : ∀ (ls : List Lamp) o', (∀ l ∈ ls, l.Ok) → ls.length ≤ 6 → BagO o' → Q (.v (.tup (ls.map Lamp.v))) (o' :: R)) :
    WC c__law_picture [.ref 0, .v (.int sp), .v (.int deep), .v (.int most)] (o :: R) Q := by
  refine wc_d rfl ?_
  unfold m__law_picture d__law_picture_1 d__law_picture_2 d__law_picture_3 d__law_picture_4
  show W _ [some (.ref 0), some (.v (.int sp)), some (.v (.int deep)), some (.v (.int most)), none, none, none, none, none, none, none, none, none, none] _ (RT (R.length + 1) Q)
  simp only [↓w_c, ↓w_e2, ↓we1', ↓p_v, ↓pr0, ↓pr1, ↓pr2, ↓pr3, ↓prA, ↓prB, ↓poL, ↓poD, ↓wB', ↓wt_N, ↓wt_An, ↓wt_Or, ↓wt_Ye, ↓w_Bo, ↓w_An, ↓w_Or, ↓w_If, ↓ws_If, ↓wa_Nil, ↓wa_Cons, ↓wTup', ↓wLst', ↓wLstM', ↓w_Dct, ↓w_DctM, ↓w_B, ↓w_Call, ↓wMt', ↓pl_nil, ↓pl_cons, ↓wc_P, ↓wc_M, ↓wSl', ↓wo_No, ↓woS', ↓wRlv, ↓wRlm, ↓ws_Nil, ↓ws_Cons, ↓then_nx, ↓then_rt, ↓ws_Asg, ↓wg_Nm, ↓wg_Tp, ↓wgs_Nil, ↓wgs_Cons, ↓wgSb', ↓ws_Par, ↓aug0, ↓aug1, ↓aug2, ↓aug3, ↓aug4, ↓aug5, ↓aug6, ↓aug7, ↓aug8, ↓aug9, ↓aug10, ↓aug11, ↓aug12, ↓aug13, ↓aug14, ↓aug15, ↓aug16, ↓aug17, ↓wAugS', ↓ws_Ret, ↓ws_RetT, ↓ws_Drop, ↓ws_For, ↓wSq', ↓wRg', ↓rg1, ↓rg2, ↓rg3, ↓rl1, ↓rl2, ↓rl3, ↓wEn', ↓enV, ↓wZp', ↓zpVV, ↓zpVB, ↓g_add, ↓g_addL, ↓g_addT, ↓g_iadd, ↓g_sub, ↓g_mul, ↓g_mulL, ↓g_fdiv, ↓g_mod, ↓g_pow, ↓g_lt, ↓g_le, ↓g_gt, ↓g_ge, ↓g_eqI, ↓g_neI, ↓g_is, ↓g_isnt, ↓g_ixT, ↓g_ixL, ↓g_ixD, ↓gl_abs, ↓gl_max, ↓gl_min, ↓gl_int, ↓gl_intB, ↓gl_gcd, ↓gl_lenL, ↓gl_lenT, ↓gl_tupL, ↓gl_tupT, ↓gl_lstL, ↓gl_lstT, ↓gl_rep, ↓gl_sortD, ↓gl_sortL, ↓ngI, ↓slL, ↓slT, ↓slS, ↓bo, ↓io, ↓av0, ↓av1, ↓itL, ↓itT, ↓it0, ↓it1, ↓it2, ↓itB, ↓rtB, ↓rt_v, ↓g_ninI, ↓g_inI, ↓w_Lc, ↓w_LcM, ↓turn_nx, wipeL_cons, wipeL_nil, ↓sw0, ↓sw1, ↓sw2, ↓gix2, ↓app0, ↓app1, ↓app2, ↓appB, ↓isL0, ↓isL1, ↓isL2, ↓isLB, ↓isLv, ↓at_head, ↓v0, ↓v1, ↓v2, ↓v3, ↓v4, ↓v5, ↓v6, ↓v7, ↓v8, ↓v9, ↓v10, ↓v11, ↓v12, ↓v13, ↓v14, ↓v15, ↓v16, ↓v17, ↓t0, ↓t1, ↓t2, ↓t3, ↓t4, ↓t5, ↓t6, ↓t7, ↓t8, ↓setAll0, ↓setAll1, List.set_cons_zero, List.set_cons_succ, decide_eq_true_eq, Bool.not_eq_true', decide_eq_false_iff_not]
  refine ⟨big_of (by omega) (by omega), ?_⟩
  refine wf_inv (fun i r S' => ∃ (ls : List Lamp) (o' : SO) (a b c d : Option RV), ls.length ≤ i ∧ (∀ l ∈ ls, l.Ok) ∧ BagO o' ∧ S' = o' :: (R ++ [.dct true (ls.map Lamp.key) (ls.map Lamp.v)]) ∧
    r = [some (.ref 0), some (.v (.int sp)), some (.v (.int deep)), some (.v (.int most)), some (.ref (R.length + 1)), a, b, c, d, none, none, none, none, none]) ⟨[], o, _, _, _, _, Nat.le_refl _, by simp, hB, rfl, rfl⟩ ?_ ?_
  · rintro i x r S' hx ⟨ls, o', a, b, c, d, hi, hok, hB', rfl, rfl⟩
    obtain ⟨hi6, rfl⟩ := rngV_get hx
    refine ⟨ok_nil _, ?_⟩
    unfold b__law_picture_1 b__law_picture_1_1 b__law_picture_1_2 b__law_picture_1_3
    simp only [↓w_c, ↓w_e2, ↓we1', ↓p_v, ↓pr0, ↓pr1, ↓pr2, ↓pr3, ↓prA, ↓prB, ↓poL, ↓poD, ↓wB', ↓wt_N, ↓wt_An, ↓wt_Or, ↓wt_Ye, ↓w_Bo, ↓w_An, ↓w_Or, ↓w_If, ↓ws_If, ↓wa_Nil, ↓wa_Cons, ↓wTup', ↓wLst', ↓wLstM', ↓w_Dct, ↓w_DctM, ↓w_B, ↓w_Call, ↓wMt', ↓pl_nil, ↓pl_cons, ↓wc_P, ↓wc_M, ↓wSl', ↓wo_No, ↓woS', ↓wRlv, ↓wRlm, ↓ws_Nil, ↓ws_Cons, ↓then_nx, ↓then_rt, ↓ws_Asg, ↓wg_Nm, ↓wg_Tp, ↓wgs_Nil, ↓wgs_Cons, ↓wgSb', ↓ws_Par, ↓aug0, ↓aug1, ↓aug2, ↓aug3, ↓aug4, ↓aug5, ↓aug6, ↓aug7, ↓aug8, ↓aug9, ↓aug10, ↓aug11, ↓aug12, ↓aug13, ↓aug14, ↓aug15, ↓aug16, ↓aug17, ↓wAugS', ↓ws_Ret, ↓ws_RetT, ↓ws_Drop, ↓ws_For, ↓wSq', ↓wRg', ↓rg1, ↓rg2, ↓rg3, ↓rl1, ↓rl2, ↓rl3, ↓wEn', ↓enV, ↓wZp', ↓zpVV, ↓zpVB, ↓g_add, ↓g_addL, ↓g_addT, ↓g_iadd, ↓g_sub, ↓g_mul, ↓g_mulL, ↓g_fdiv, ↓g_mod, ↓g_pow, ↓g_lt, ↓g_le, ↓g_gt, ↓g_ge, ↓g_eqI, ↓g_neI, ↓g_is, ↓g_isnt, ↓g_ixT, ↓g_ixL, ↓g_ixD, ↓gl_abs, ↓gl_max, ↓gl_min, ↓gl_int, ↓gl_intB, ↓gl_gcd, ↓gl_lenL, ↓gl_lenT, ↓gl_tupL, ↓gl_tupT, ↓gl_lstL, ↓gl_lstT, ↓gl_rep, ↓gl_sortD, ↓gl_sortL, ↓ngI, ↓slL, ↓slT, ↓slS, ↓bo, ↓io, ↓av0, ↓av1, ↓itL, ↓itT, ↓it0, ↓it1, ↓it2, ↓itB, ↓rtB, ↓rt_v, ↓g_ninI, ↓g_inI, ↓w_Lc, ↓w_LcM, ↓turn_nx, wipeL_cons, wipeL_nil, ↓sw0, ↓sw1, ↓sw2, ↓gix2, ↓app0, ↓app1, ↓app2, ↓appB, ↓isL0, ↓isL1, ↓isL2, ↓isLB, ↓isLv, ↓at_head, ↓v0, ↓v1, ↓v2, ↓v3, ↓v4, ↓v5, ↓v6, ↓v7, ↓v8, ↓v9, ↓v10, ↓v11, ↓v12, ↓v13, ↓v14, ↓v15, ↓v16, ↓v17, ↓t0, ↓t1, ↓t2, ↓t3, ↓t4, ↓t5, ↓t6, ↓t7, ↓t8, ↓setAll0, ↓setAll1, List.set_cons_zero, List.set_cons_succ, decide_eq_true_eq, Bool.not_eq_true', decide_eq_false_iff_not]
    refine ⟨mul_l (by decide) (by decide), mul_l (by decide) (by decide), rfl, w_take hB' (by omega) (by omega) fun v o1 hB1 v0 v1 => ?_⟩
    simp only [↓w_c, ↓w_e2, ↓we1', ↓p_v, ↓pr0, ↓pr1, ↓pr2, ↓pr3, ↓prA, ↓prB, ↓poL, ↓poD, ↓wB', ↓wt_N, ↓wt_An, ↓wt_Or, ↓wt_Ye, ↓w_Bo, ↓w_An, ↓w_Or, ↓w_If, ↓ws_If, ↓wa_Nil, ↓wa_Cons, ↓wTup', ↓wLst', ↓wLstM', ↓w_Dct, ↓w_DctM, ↓w_B, ↓w_Call, ↓wMt', ↓pl_nil, ↓pl_cons, ↓wc_P, ↓wc_M, ↓wSl', ↓wo_No, ↓woS', ↓wRlv, ↓wRlm, ↓ws_Nil, ↓ws_Cons, ↓then_nx, ↓then_rt, ↓ws_Asg, ↓wg_Nm, ↓wg_Tp, ↓wgs_Nil, ↓wgs_Cons, ↓wgSb', ↓ws_Par, ↓aug0, ↓aug1, ↓aug2, ↓aug3, ↓aug4, ↓aug5, ↓aug6, ↓aug7, ↓aug8, ↓aug9, ↓aug10, ↓aug11, ↓aug12, ↓aug13, ↓aug14, ↓aug15, ↓aug16, ↓aug17, ↓wAugS', ↓ws_Ret, ↓ws_RetT, ↓ws_Drop, ↓ws_For, ↓wSq', ↓wRg', ↓rg1, ↓rg2, ↓rg3, ↓rl1, ↓rl2, ↓rl3, ↓wEn', ↓enV, ↓wZp', ↓zpVV, ↓zpVB, ↓g_add, ↓g_addL, ↓g_addT, ↓g_iadd, ↓g_sub, ↓g_mul, ↓g_mulL, ↓g_fdiv, ↓g_mod, ↓g_pow, ↓g_lt, ↓g_le, ↓g_gt, ↓g_ge, ↓g_eqI, ↓g_neI, ↓g_is, ↓g_isnt, ↓g_ixT, ↓g_ixL, ↓g_ixD, ↓gl_abs, ↓gl_max, ↓gl_min, ↓gl_int, ↓gl_intB, ↓gl_gcd, ↓gl_lenL, ↓gl_lenT, ↓gl_tupL, ↓gl_tupT, ↓gl_lstL, ↓gl_lstT, ↓gl_rep, ↓gl_sortD, ↓gl_sortL, ↓ngI, ↓slL, ↓slT, ↓slS, ↓bo, ↓io, ↓av0, ↓av1, ↓itL, ↓itT, ↓it0, ↓it1, ↓it2, ↓itB, ↓rtB, ↓rt_v, ↓g_ninI, ↓g_inI, ↓w_Lc, ↓w_LcM, ↓turn_nx, wipeL_cons, wipeL_nil, ↓sw0, ↓sw1, ↓sw2, ↓gix2, ↓app0, ↓app1, ↓app2, ↓appB, ↓isL0, ↓isL1, ↓isL2, ↓isLB, ↓isLv, ↓at_head, ↓v0, ↓v1, ↓v2, ↓v3, ↓v4, ↓v5, ↓v6, ↓v7, ↓v8, ↓v9, ↓v10, ↓v11, ↓v12, ↓v13, ↓v14, ↓v15, ↓v16, ↓v17, ↓t0, ↓t1, ↓t2, ↓t3, ↓t4, ↓t5, ↓t6, ↓t7, ↓t8, ↓setAll0, ↓setAll1, List.set_cons_zero, List.set_cons_succ, decide_eq_true_eq, Bool.not_eq_true', decide_eq_false_iff_not]
    refine ⟨rfl, rfl, w_someI [0, sp, 2 * sp, v, sp - 1] hB1 (by simp) (by simp) fun x o2 hx hB2 => ?_⟩
    have hx' : 0 ≤ x ∧ x ≤ 60 := by
      simp only [List.mem_cons, List.not_mem_nil, or_false] at hx
      omega
    simp only [↓w_c, ↓w_e2, ↓we1', ↓p_v, ↓pr0, ↓pr1, ↓pr2, ↓pr3, ↓prA, ↓prB, ↓poL, ↓poD, ↓wB', ↓wt_N, ↓wt_An, ↓wt_Or, ↓wt_Ye, ↓w_Bo, ↓w_An, ↓w_Or, ↓w_If, ↓ws_If, ↓wa_Nil, ↓wa_Cons, ↓wTup', ↓wLst', ↓wLstM', ↓w_Dct, ↓w_DctM, ↓w_B, ↓w_Call, ↓wMt', ↓pl_nil, ↓pl_cons, ↓wc_P, ↓wc_M, ↓wSl', ↓wo_No, ↓woS', ↓wRlv, ↓wRlm, ↓ws_Nil, ↓ws_Cons, ↓then_nx, ↓then_rt, ↓ws_Asg, ↓wg_Nm, ↓wg_Tp, ↓wgs_Nil, ↓wgs_Cons, ↓wgSb', ↓ws_Par, ↓aug0, ↓aug1, ↓aug2, ↓aug3, ↓aug4, ↓aug5, ↓aug6, ↓aug7, ↓aug8, ↓aug9, ↓aug10, ↓aug11, ↓aug12, ↓aug13, ↓aug14, ↓aug15, ↓aug16, ↓aug17, ↓wAugS', ↓ws_Ret, ↓ws_RetT, ↓ws_Drop, ↓ws_For, ↓wSq', ↓wRg', ↓rg1, ↓rg2, ↓rg3, ↓rl1, ↓rl2, ↓rl3, ↓wEn', ↓enV, ↓wZp', ↓zpVV, ↓zpVB, ↓g_add, ↓g_addL, ↓g_addT, ↓g_iadd, ↓g_sub, ↓g_mul, ↓g_mulL, ↓g_fdiv, ↓g_mod, ↓g_pow, ↓g_lt, ↓g_le, ↓g_gt, ↓g_ge, ↓g_eqI, ↓g_neI, ↓g_is, ↓g_isnt, ↓g_ixT, ↓g_ixL, ↓g_ixD, ↓gl_abs, ↓gl_max, ↓gl_min, ↓gl_int, ↓gl_intB, ↓gl_gcd, ↓gl_lenL, ↓gl_lenT, ↓gl_tupL, ↓gl_tupT, ↓gl_lstL, ↓gl_lstT, ↓gl_rep, ↓gl_sortD, ↓gl_sortL, ↓ngI, ↓slL, ↓slT, ↓slS, ↓bo, ↓io, ↓av0, ↓av1, ↓itL, ↓itT, ↓it0, ↓it1, ↓it2, ↓itB, ↓rtB, ↓rt_v, ↓g_ninI, ↓g_inI, ↓w_Lc, ↓w_LcM, ↓turn_nx, wipeL_cons, wipeL_nil, ↓sw0, ↓sw1, ↓sw2, ↓gix2, ↓app0, ↓app1, ↓app2, ↓appB, ↓isL0, ↓isL1, ↓isL2, ↓isLB, ↓isLv, ↓at_head, ↓v0, ↓v1, ↓v2, ↓v3, ↓v4, ↓v5, ↓v6, ↓v7, ↓v8, ↓v9, ↓v10, ↓v11, ↓v12, ↓v13, ↓v14, ↓v15, ↓v16, ↓v17, ↓t0, ↓t1, ↓t2, ↓t3, ↓t4, ↓t5, ↓t6, ↓t7, ↓t8, ↓setAll0, ↓setAll1, List.set_cons_zero, List.set_cons_succ, decide_eq_true_eq, Bool.not_eq_true', decide_eq_false_iff_not]
    refine ⟨rfl, w_take hB2 (by decide) (by decide) fun z o3 hB3 z0 z1 => ?_⟩
    simp only [↓w_c, ↓w_e2, ↓we1', ↓p_v, ↓pr0, ↓pr1, ↓pr2, ↓pr3, ↓prA, ↓prB, ↓poL, ↓poD, ↓wB', ↓wt_N, ↓wt_An, ↓wt_Or, ↓wt_Ye, ↓w_Bo, ↓w_An, ↓w_Or, ↓w_If, ↓ws_If, ↓wa_Nil, ↓wa_Cons, ↓wTup', ↓wLst', ↓wLstM', ↓w_Dct, ↓w_DctM, ↓w_B, ↓w_Call, ↓wMt', ↓pl_nil, ↓pl_cons, ↓wc_P, ↓wc_M, ↓wSl', ↓wo_No, ↓woS', ↓wRlv, ↓wRlm, ↓ws_Nil, ↓ws_Cons, ↓then_nx, ↓then_rt, ↓ws_Asg, ↓wg_Nm, ↓wg_Tp, ↓wgs_Nil, ↓wgs_Cons, ↓wgSb', ↓ws_Par, ↓aug0, ↓aug1, ↓aug2, ↓aug3, ↓aug4, ↓aug5, ↓aug6, ↓aug7, ↓aug8, ↓aug9, ↓aug10, ↓aug11, ↓aug12, ↓aug13, ↓aug14, ↓aug15, ↓aug16, ↓aug17, ↓wAugS', ↓ws_Ret, ↓ws_RetT, ↓ws_Drop, ↓ws_For, ↓wSq', ↓wRg', ↓rg1, ↓rg2, ↓rg3, ↓rl1, ↓rl2, ↓rl3, ↓wEn', ↓enV, ↓wZp', ↓zpVV, ↓zpVB, ↓g_add, ↓g_addL, ↓g_addT, ↓g_iadd, ↓g_sub, ↓g_mul, ↓g_mulL, ↓g_fdiv, ↓g_mod, ↓g_pow, ↓g_lt, ↓g_le, ↓g_gt, ↓g_ge, ↓g_eqI, ↓g_neI, ↓g_is, ↓g_isnt, ↓g_ixT, ↓g_ixL, ↓g_ixD, ↓gl_abs, ↓gl_max, ↓gl_min, ↓gl_int, ↓gl_intB, ↓gl_gcd, ↓gl_lenL, ↓gl_lenT, ↓gl_tupL, ↓gl_tupT, ↓gl_lstL, ↓gl_lstT, ↓gl_rep, ↓gl_sortD, ↓gl_sortL, ↓ngI, ↓slL, ↓slT, ↓slS, ↓bo, ↓io, ↓av0, ↓av1, ↓itL, ↓itT, ↓it0, ↓it1, ↓it2, ↓itB, ↓rtB, ↓rt_v, ↓g_ninI, ↓g_inI, ↓w_Lc, ↓w_LcM, ↓turn_nx, wipeL_cons, wipeL_nil, ↓sw0, ↓sw1, ↓sw2, ↓gix2, ↓app0, ↓app1, ↓app2, ↓appB, ↓isL0, ↓isL1, ↓isL2, ↓isLB, ↓isLv, ↓at_head, ↓v0, ↓v1, ↓v2, ↓v3, ↓v4, ↓v5, ↓v6, ↓v7, ↓v8, ↓v9, ↓v10, ↓v11, ↓v12, ↓v13, ↓v14, ↓v15, ↓v16, ↓v17, ↓t0, ↓t1, ↓t2, ↓t3, ↓t4, ↓t5, ↓t6, ↓t7, ↓t8, ↓setAll0, ↓setAll1, List.set_cons_zero, List.set_cons_succ, decide_eq_true_eq, Bool.not_eq_true', decide_eq_false_iff_not]
    refine ⟨rfl, rfl, rfl, rfl, rfl, rfl, w_some hB3 (by simp) (by simp) fun sh0 o4 hsh0 hB4 => ?_⟩
    obtain ⟨sh, hsh, rfl⟩ := shade_of hsh0
    simp only [↓w_c, ↓w_e2, ↓we1', ↓p_v, ↓pr0, ↓pr1, ↓pr2, ↓pr3, ↓prA, ↓prB, ↓poL, ↓poD, ↓wB', ↓wt_N, ↓wt_An, ↓wt_Or, ↓wt_Ye, ↓w_Bo, ↓w_An, ↓w_Or, ↓w_If, ↓ws_If, ↓wa_Nil, ↓wa_Cons, ↓wTup', ↓wLst', ↓wLstM', ↓w_Dct, ↓w_DctM, ↓w_B, ↓w_Call, ↓wMt', ↓pl_nil, ↓pl_cons, ↓wc_P, ↓wc_M, ↓wSl', ↓wo_No, ↓woS', ↓wRlv, ↓wRlm, ↓ws_Nil, ↓ws_Cons, ↓then_nx, ↓then_rt, ↓ws_Asg, ↓wg_Nm, ↓wg_Tp, ↓wgs_Nil, ↓wgs_Cons, ↓wgSb', ↓ws_Par, ↓aug0, ↓aug1, ↓aug2, ↓aug3, ↓aug4, ↓aug5, ↓aug6, ↓aug7, ↓aug8, ↓aug9, ↓aug10, ↓aug11, ↓aug12, ↓aug13, ↓aug14, ↓aug15, ↓aug16, ↓aug17, ↓wAugS', ↓ws_Ret, ↓ws_RetT, ↓ws_Drop, ↓ws_For, ↓wSq', ↓wRg', ↓rg1, ↓rg2, ↓rg3, ↓rl1, ↓rl2, ↓rl3, ↓wEn', ↓enV, ↓wZp', ↓zpVV, ↓zpVB, ↓g_add, ↓g_addL, ↓g_addT, ↓g_iadd, ↓g_sub, ↓g_mul, ↓g_mulL, ↓g_fdiv, ↓g_mod, ↓g_pow, ↓g_lt, ↓g_le, ↓g_gt, ↓g_ge, ↓g_eqI, ↓g_neI, ↓g_is, ↓g_isnt, ↓g_ixT, ↓g_ixL, ↓g_ixD, ↓gl_abs, ↓gl_max, ↓gl_min, ↓gl_int, ↓gl_intB, ↓gl_gcd, ↓gl_lenL, ↓gl_lenT, ↓gl_tupL, ↓gl_tupT, ↓gl_lstL, ↓gl_lstT, ↓gl_rep, ↓gl_sortD, ↓gl_sortL, ↓ngI, ↓slL, ↓slT, ↓slS, ↓bo, ↓io, ↓av0, ↓av1, ↓itL, ↓itT, ↓it0, ↓it1, ↓it2, ↓itB, ↓rtB, ↓rt_v, ↓g_ninI, ↓g_inI, ↓w_Lc, ↓w_LcM, ↓turn_nx, wipeL_cons, wipeL_nil, ↓sw0, ↓sw1, ↓sw2, ↓gix2, ↓app0, ↓app1, ↓app2, ↓appB, ↓isL0, ↓isL1, ↓isL2, ↓isLB, ↓isLv, ↓at_head, ↓v0, ↓v1, ↓v2, ↓v3, ↓v4, ↓v5, ↓v6, ↓v7, ↓v8, ↓v9, ↓v10, ↓v11, ↓v12, ↓v13, ↓v14, ↓v15, ↓v16, ↓v17, ↓t0, ↓t1, ↓t2, ↓t3, ↓t4, ↓t5, ↓t6, ↓t7, ↓t8, ↓setAll0, ↓setAll1, List.set_cons_zero, List.set_cons_succ, decide_eq_true_eq, Bool.not_eq_true', decide_eq_false_iff_not]
    refine ⟨rfl, w_take hB4 (by decide) (by decide) fun t o5 hB5 t0 t1 => ?_⟩
    simp only [↓w_c, ↓w_e2, ↓we1', ↓p_v, ↓pr0, ↓pr1, ↓pr2, ↓pr3, ↓prA, ↓prB, ↓poL, ↓poD, ↓wB', ↓wt_N, ↓wt_An, ↓wt_Or, ↓wt_Ye, ↓w_Bo, ↓w_An, ↓w_Or, ↓w_If, ↓ws_If, ↓wa_Nil, ↓wa_Cons, ↓wTup', ↓wLst', ↓wLstM', ↓w_Dct, ↓w_DctM, ↓w_B, ↓w_Call, ↓wMt', ↓pl_nil, ↓pl_cons, ↓wc_P, ↓wc_M, ↓wSl', ↓wo_No, ↓woS', ↓wRlv, ↓wRlm, ↓ws_Nil, ↓ws_Cons, ↓then_nx, ↓then_rt, ↓ws_Asg, ↓wg_Nm, ↓wg_Tp, ↓wgs_Nil, ↓wgs_Cons, ↓wgSb', ↓ws_Par, ↓aug0, ↓aug1, ↓aug2, ↓aug3, ↓aug4, ↓aug5, ↓aug6, ↓aug7, ↓aug8, ↓aug9, ↓aug10, ↓aug11, ↓aug12, ↓aug13, ↓aug14, ↓aug15, ↓aug16, ↓aug17, ↓wAugS', ↓ws_Ret, ↓ws_RetT, ↓ws_Drop, ↓ws_For, ↓wSq', ↓wRg', ↓rg1, ↓rg2, ↓rg3, ↓rl1, ↓rl2, ↓rl3, ↓wEn', ↓enV, ↓wZp', ↓zpVV, ↓zpVB, ↓g_add, ↓g_addL, ↓g_addT, ↓g_iadd, ↓g_sub, ↓g_mul, ↓g_mulL, ↓g_fdiv, ↓g_mod, ↓g_pow, ↓g_lt, ↓g_le, ↓g_gt, ↓g_ge, ↓g_eqI, ↓g_neI, ↓g_is, ↓g_isnt, ↓g_ixT, ↓g_ixL, ↓g_ixD, ↓gl_abs, ↓gl_max, ↓gl_min, ↓gl_int, ↓gl_intB, ↓gl_gcd, ↓gl_lenL, ↓gl_lenT, ↓gl_tupL, ↓gl_tupT, ↓gl_lstL, ↓gl_lstT, ↓gl_rep, ↓gl_sortD, ↓gl_sortL, ↓ngI, ↓slL, ↓slT, ↓slS, ↓bo, ↓io, ↓av0, ↓av1, ↓itL, ↓itT, ↓it0, ↓it1, ↓it2, ↓itB, ↓rtB, ↓rt_v, ↓g_ninI, ↓g_inI, ↓w_Lc, ↓w_LcM, ↓turn_nx, wipeL_cons, wipeL_nil, ↓sw0, ↓sw1, ↓sw2, ↓gix2, ↓app0, ↓app1, ↓app2, ↓appB, ↓isL0, ↓isL1, ↓isL2, ↓isLB, ↓isLv, ↓at_head, ↓v0, ↓v1, ↓v2, ↓v3, ↓v4, ↓v5, ↓v6, ↓v7, ↓v8, ↓v9, ↓v10, ↓v11, ↓v12, ↓v13, ↓v14, ↓v15, ↓v16, ↓v17, ↓t0, ↓t1, ↓t2, ↓t3, ↓t4, ↓t5, ↓t6, ↓t7, ↓t8, ↓setAll0, ↓setAll1, List.set_cons_zero, List.set_cons_succ, decide_eq_true_eq, Bool.not_eq_true', decide_eq_false_iff_not]
    split
    · refine ⟨rfl, w_take hB5 (by decide) (by decide) fun s o6 hB6 s0 s1 => ?_⟩
      simp only [↓w_c, ↓w_e2, ↓we1', ↓p_v, ↓pr0, ↓pr1, ↓pr2, ↓pr3, ↓prA, ↓prB, ↓poL, ↓poD, ↓wB', ↓wt_N, ↓wt_An, ↓wt_Or, ↓wt_Ye, ↓w_Bo, ↓w_An, ↓w_Or, ↓w_If, ↓ws_If, ↓wa_Nil, ↓wa_Cons, ↓wTup', ↓wLst', ↓wLstM', ↓w_Dct, ↓w_DctM, ↓w_B, ↓w_Call, ↓wMt', ↓pl_nil, ↓pl_cons, ↓wc_P, ↓wc_M, ↓wSl', ↓wo_No, ↓woS', ↓wRlv, ↓wRlm, ↓ws_Nil, ↓ws_Cons, ↓then_nx, ↓then_rt, ↓ws_Asg, ↓wg_Nm, ↓wg_Tp, ↓wgs_Nil, ↓wgs_Cons, ↓wgSb', ↓ws_Par, ↓aug0, ↓aug1, ↓aug2, ↓aug3, ↓aug4, ↓aug5, ↓aug6, ↓aug7, ↓aug8, ↓aug9, ↓aug10, ↓aug11, ↓aug12, ↓aug13, ↓aug14, ↓aug15, ↓aug16, ↓aug17, ↓wAugS', ↓ws_Ret, ↓ws_RetT, ↓ws_Drop, ↓ws_For, ↓wSq', ↓wRg', ↓rg1, ↓rg2, ↓rg3, ↓rl1, ↓rl2, ↓rl3, ↓wEn', ↓enV, ↓wZp', ↓zpVV, ↓zpVB, ↓g_add, ↓g_addL, ↓g_addT, ↓g_iadd, ↓g_sub, ↓g_mul, ↓g_mulL, ↓g_fdiv, ↓g_mod, ↓g_pow, ↓g_lt, ↓g_le, ↓g_gt, ↓g_ge, ↓g_eqI, ↓g_neI, ↓g_is, ↓g_isnt, ↓g_ixT, ↓g_ixL, ↓g_ixD, ↓gl_abs, ↓gl_max, ↓gl_min, ↓gl_int, ↓gl_intB, ↓gl_gcd, ↓gl_lenL, ↓gl_lenT, ↓gl_tupL, ↓gl_tupT, ↓gl_lstL, ↓gl_lstT, ↓gl_rep, ↓gl_sortD, ↓gl_sortL, ↓ngI, ↓slL, ↓slT, ↓slS, ↓bo, ↓io, ↓av0, ↓av1, ↓itL, ↓itT, ↓it0, ↓it1, ↓it2, ↓itB, ↓rtB, ↓rt_v, ↓g_ninI, ↓g_inI, ↓w_Lc, ↓w_LcM, ↓turn_nx, wipeL_cons, wipeL_nil, ↓sw0, ↓sw1, ↓sw2, ↓gix2, ↓app0, ↓app1, ↓app2, ↓appB, ↓isL0, ↓isL1, ↓isL2, ↓isLB, ↓isLv, ↓at_head, ↓v0, ↓v1, ↓v2, ↓v3, ↓v4, ↓v5, ↓v6, ↓v7, ↓v8, ↓v9, ↓v10, ↓v11, ↓v12, ↓v13, ↓v14, ↓v15, ↓v16, ↓v17, ↓t0, ↓t1, ↓t2, ↓t3, ↓t4, ↓t5, ↓t6, ↓t7, ↓t8, ↓setAll0, ↓setAll1, List.set_cons_zero, List.set_cons_succ, decide_eq_true_eq, Bool.not_eq_true', decide_eq_false_iff_not]
      refine ⟨rfl, rfl, (dset_at atA rfl (by rw [List.length_map]; omega)).mpr ?_⟩
      obtain ⟨ls', e, hl', hm'⟩ := put_lamp ⟨x, z, sh, s⟩ ls
      have e' : putP (.tup [.int x, .int z]) (.tup [.int x, .int z, .tup (sh.map PV.str), .int s]) (ls.map Lamp.key) (ls.map Lamp.v) = (ls'.map Lamp.key, ls'.map Lamp.v) := e
      rw [setA, e']
      refine ⟨ls', o6, _, _, _, _, by omega, fun m hm => ?_, hB6, rfl, rfl⟩
      rcases hm' m hm with h | rfl
      · exact hok m h
      · exact ⟨hx', ⟨z0, by show z ≤ 3; omega⟩, hsh, ⟨s0, by show s ≤ 3; omega⟩⟩
    · exact ⟨ls, o5, _, _, _, _, by omega, hok, hB5, rfl, rfl⟩
  · rintro r S' ⟨ls, o', a, b, c, d, hi, hok, hB', rfl, rfl⟩
    rw [rngV_length] at hi
    have hl6 : ls.length ≤ 6 := by omega
    refine ⟨ok_nil _, ?_⟩
    have hk := keys_sort (ls := ls) (by omega)
    have hperm : (sortP (ls.map Lamp.key)).Perm (ls.map Lamp.key) := List.mergeSort_perm _ _
    simp only [↓w_c, ↓w_e2, ↓we1', ↓p_v, ↓pr0, ↓pr1, ↓pr2, ↓pr3, ↓prA, ↓prB, ↓poL, ↓poD, ↓wB', ↓wt_N, ↓wt_An, ↓wt_Or, ↓wt_Ye, ↓w_Bo, ↓w_An, ↓w_Or, ↓w_If, ↓ws_If, ↓wa_Nil, ↓wa_Cons, ↓wTup', ↓wLst', ↓wLstM', ↓w_Dct, ↓w_DctM, ↓w_B, ↓w_Call, ↓wMt', ↓pl_nil, ↓pl_cons, ↓wc_P, ↓wc_M, ↓wSl', ↓wo_No, ↓woS', ↓wRlv, ↓wRlm, ↓ws_Nil, ↓ws_Cons, ↓then_nx, ↓then_rt, ↓ws_Asg, ↓wg_Nm, ↓wg_Tp, ↓wgs_Nil, ↓wgs_Cons, ↓wgSb', ↓ws_Par, ↓aug0, ↓aug1, ↓aug2, ↓aug3, ↓aug4, ↓aug5, ↓aug6, ↓aug7, ↓aug8, ↓aug9, ↓aug10, ↓aug11, ↓aug12, ↓aug13, ↓aug14, ↓aug15, ↓aug16, ↓aug17, ↓wAugS', ↓ws_Ret, ↓ws_RetT, ↓ws_Drop, ↓ws_For, ↓wSq', ↓wRg', ↓rg1, ↓rg2, ↓rg3, ↓rl1, ↓rl2, ↓rl3, ↓wEn', ↓enV, ↓wZp', ↓zpVV, ↓zpVB, ↓g_add, ↓g_addL, ↓g_addT, ↓g_iadd, ↓g_sub, ↓g_mul, ↓g_mulL, ↓g_fdiv, ↓g_mod, ↓g_pow, ↓g_lt, ↓g_le, ↓g_gt, ↓g_ge, ↓g_eqI, ↓g_neI, ↓g_is, ↓g_isnt, ↓g_ixT, ↓g_ixL, ↓g_ixD, ↓gl_abs, ↓gl_max, ↓gl_min, ↓gl_int, ↓gl_intB, ↓gl_gcd, ↓gl_lenL, ↓gl_lenT, ↓gl_tupL, ↓gl_tupT, ↓gl_lstL, ↓gl_lstT, ↓gl_rep, ↓gl_sortD, ↓gl_sortL, ↓ngI, ↓slL, ↓slT, ↓slS, ↓bo, ↓io, ↓av0, ↓av1, ↓itL, ↓itT, ↓it0, ↓it1, ↓it2, ↓itB, ↓rtB, ↓rt_v, ↓g_ninI, ↓g_inI, ↓w_Lc, ↓w_LcM, ↓turn_nx, wipeL_cons, wipeL_nil, ↓sw0, ↓sw1, ↓sw2, ↓gix2, ↓app0, ↓app1, ↓app2, ↓appB, ↓isL0, ↓isL1, ↓isL2, ↓isLB, ↓isLv, ↓at_head, ↓v0, ↓v1, ↓v2, ↓v3, ↓v4, ↓v5, ↓v6, ↓v7, ↓v8, ↓v9, ↓v10, ↓v11, ↓v12, ↓v13, ↓v14, ↓v15, ↓v16, ↓v17, ↓t0, ↓t1, ↓t2, ↓t3, ↓t4, ↓t5, ↓t6, ↓t7, ↓t8, ↓setAll0, ↓setAll1, List.set_cons_zero, List.set_cons_succ, decide_eq_true_eq, Bool.not_eq_true', decide_eq_false_iff_not]
    refine ⟨hk, by rw [small_of, sortP_length, List.length_map]; omega, ?_⟩
    refine wl_inv (fun i acc S' => S' = o' :: (R ++ [.dct true (ls.map Lamp.key) (ls.map Lamp.v)]) ∧ ∃ ms : List Lamp, acc = ms.map Lamp.v ∧ ms.length ≤ i ∧ ∀ m ∈ ms, m.Ok) ⟨rfl, [], rfl, Nat.le_refl _, by simp⟩ ?_ ?_
    · rintro i x acc S' hx ⟨rfl, ms, rfl, hms, hmo⟩
      have hx2 := hperm.mem_iff.mp (List.mem_of_getElem? hx)
      obtain ⟨key, hkm, rfl⟩ := List.mem_map.mp hx2
      obtain ⟨m, hm, hlook⟩ := look_lamp key ls hx2
      refine ⟨ok_nil _, ?_⟩
      simp only [↓w_c, ↓w_e2, ↓we1', ↓p_v, ↓pr0, ↓pr1, ↓pr2, ↓pr3, ↓prA, ↓prB, ↓poL, ↓poD, ↓wB', ↓wt_N, ↓wt_An, ↓wt_Or, ↓wt_Ye, ↓w_Bo, ↓w_An, ↓w_Or, ↓w_If, ↓ws_If, ↓wa_Nil, ↓wa_Cons, ↓wTup', ↓wLst', ↓wLstM', ↓w_Dct, ↓w_DctM, ↓w_B, ↓w_Call, ↓wMt', ↓pl_nil, ↓pl_cons, ↓wc_P, ↓wc_M, ↓wSl', ↓wo_No, ↓woS', ↓wRlv, ↓wRlm, ↓ws_Nil, ↓ws_Cons, ↓then_nx, ↓then_rt, ↓ws_Asg, ↓wg_Nm, ↓wg_Tp, ↓wgs_Nil, ↓wgs_Cons, ↓wgSb', ↓ws_Par, ↓aug0, ↓aug1, ↓aug2, ↓aug3, ↓aug4, ↓aug5, ↓aug6, ↓aug7, ↓aug8, ↓aug9, ↓aug10, ↓aug11, ↓aug12, ↓aug13, ↓aug14, ↓aug15, ↓aug16, ↓aug17, ↓wAugS', ↓ws_Ret, ↓ws_RetT, ↓ws_Drop, ↓ws_For, ↓wSq', ↓wRg', ↓rg1, ↓rg2, ↓rg3, ↓rl1, ↓rl2, ↓rl3, ↓wEn', ↓enV, ↓wZp', ↓zpVV, ↓zpVB, ↓g_add, ↓g_addL, ↓g_addT, ↓g_iadd, ↓g_sub, ↓g_mul, ↓g_mulL, ↓g_fdiv, ↓g_mod, ↓g_pow, ↓g_lt, ↓g_le, ↓g_gt, ↓g_ge, ↓g_eqI, ↓g_neI, ↓g_is, ↓g_isnt, ↓g_ixT, ↓g_ixL, ↓g_ixD, ↓gl_abs, ↓gl_max, ↓gl_min, ↓gl_int, ↓gl_intB, ↓gl_gcd, ↓gl_lenL, ↓gl_lenT, ↓gl_tupL, ↓gl_tupT, ↓gl_lstL, ↓gl_lstT, ↓gl_rep, ↓gl_sortD, ↓gl_sortL, ↓ngI, ↓slL, ↓slT, ↓slS, ↓bo, ↓io, ↓av0, ↓av1, ↓itL, ↓itT, ↓it0, ↓it1, ↓it2, ↓itB, ↓rtB, ↓rt_v, ↓g_ninI, ↓g_inI, ↓w_Lc, ↓w_LcM, ↓turn_nx, wipeL_cons, wipeL_nil, ↓sw0, ↓sw1, ↓sw2, ↓gix2, ↓app0, ↓app1, ↓app2, ↓appB, ↓isL0, ↓isL1, ↓isL2, ↓isLB, ↓isLv, ↓at_head, ↓v0, ↓v1, ↓v2, ↓v3, ↓v4, ↓v5, ↓v6, ↓v7, ↓v8, ↓v9, ↓v10, ↓v11, ↓v12, ↓v13, ↓v14, ↓v15, ↓v16, ↓v17, ↓t0, ↓t1, ↓t2, ↓t3, ↓t4, ↓t5, ↓t6, ↓t7, ↓t8, ↓setAll0, ↓setAll1, List.set_cons_zero, List.set_cons_succ, decide_eq_true_eq, Bool.not_eq_true', decide_eq_false_iff_not]
      rw [if_pos trivial]
      exact ⟨rfl, _, hlook, m.v, rfl, trivial, ms ++ [m], by simp, by simp; omega, fun q hq => by
        rcases List.mem_append.mp hq with hq | hq
        · exact hmo q hq
        · have : q = m := by simpa using hq
          rw [this]
          exact hok m hm⟩
    · rintro acc S' ⟨rfl, ms, rfl, hms, hmo⟩
      rw [sortP_length, List.length_map] at hms
      refine ⟨ok_nil _, ?_⟩
      try (simp only [↓w_c, ↓w_e2, ↓we1', ↓p_v, ↓pr0, ↓pr1, ↓pr2, ↓pr3, ↓prA, ↓prB, ↓poL, ↓poD, ↓wB', ↓wt_N, ↓wt_An, ↓wt_Or, ↓wt_Ye, ↓w_Bo, ↓w_An, ↓w_Or, ↓w_If, ↓ws_If, ↓wa_Nil, ↓wa_Cons, ↓wTup', ↓wLst', ↓wLstM', ↓w_Dct, ↓w_DctM, ↓w_B, ↓w_Call, ↓wMt', ↓pl_nil, ↓pl_cons, ↓wc_P, ↓wc_M, ↓wSl', ↓wo_No, ↓woS', ↓wRlv, ↓wRlm, ↓ws_Nil, ↓ws_Cons, ↓then_nx, ↓then_rt, ↓ws_Asg, ↓wg_Nm, ↓wg_Tp, ↓wgs_Nil, ↓wgs_Cons, ↓wgSb', ↓ws_Par, ↓aug0, ↓aug1, ↓aug2, ↓aug3, ↓aug4, ↓aug5, ↓aug6, ↓aug7, ↓aug8, ↓aug9, ↓aug10, ↓aug11, ↓aug12, ↓aug13, ↓aug14, ↓aug15, ↓aug16, ↓aug17, ↓wAugS', ↓ws_Ret, ↓ws_RetT, ↓ws_Drop, ↓ws_For, ↓wSq', ↓wRg', ↓rg1, ↓rg2, ↓rg3, ↓rl1, ↓rl2, ↓rl3, ↓wEn', ↓enV, ↓wZp', ↓zpVV, ↓zpVB, ↓g_add, ↓g_addL, ↓g_addT, ↓g_iadd, ↓g_sub, ↓g_mul, ↓g_mulL, ↓g_fdiv, ↓g_mod, ↓g_pow, ↓g_lt, ↓g_le, ↓g_gt, ↓g_ge, ↓g_eqI, ↓g_neI, ↓g_is, ↓g_isnt, ↓g_ixT, ↓g_ixL, ↓g_ixD, ↓gl_abs, ↓gl_max, ↓gl_min, ↓gl_int, ↓gl_intB, ↓gl_gcd, ↓gl_lenL, ↓gl_lenT, ↓gl_tupL, ↓gl_tupT, ↓gl_lstL, ↓gl_lstT, ↓gl_rep, ↓gl_sortD, ↓gl_sortL, ↓ngI, ↓slL, ↓slT, ↓slS, ↓bo, ↓io, ↓av0, ↓av1, ↓itL, ↓itT, ↓it0, ↓it1, ↓it2, ↓itB, ↓rtB, ↓rt_v, ↓g_ninI, ↓g_inI, ↓w_Lc, ↓w_LcM, ↓turn_nx, wipeL_cons, wipeL_nil, ↓sw0, ↓sw1, ↓sw2, ↓gix2, ↓app0, ↓app1, ↓app2, ↓appB, ↓isL0, ↓isL1, ↓isL2, ↓isLB, ↓isLv, ↓at_head, ↓v0, ↓v1, ↓v2, ↓v3, ↓v4, ↓v5, ↓v6, ↓v7, ↓v8, ↓v9, ↓v10, ↓v11, ↓v12, ↓v13, ↓v14, ↓v15, ↓v16, ↓v17, ↓t0, ↓t1, ↓t2, ↓t3, ↓t4, ↓t5, ↓t6, ↓t7, ↓t8, ↓setAll0, ↓setAll1, List.set_cons_zero, List.set_cons_succ, decide_eq_true_eq, Bool.not_eq_true', decide_eq_false_iff_not])
      refine ⟨rfl, w_rows (by omega) fun rs hrs hrp => ?_⟩
      simp only [↓w_c, ↓w_e2, ↓we1', ↓p_v, ↓pr0, ↓pr1, ↓pr2, ↓pr3, ↓prA, ↓prB, ↓poL, ↓poD, ↓wB', ↓wt_N, ↓wt_An, ↓wt_Or, ↓wt_Ye, ↓w_Bo, ↓w_An, ↓w_Or, ↓w_If, ↓ws_If, ↓wa_Nil, ↓wa_Cons, ↓wTup', ↓wLst', ↓wLstM', ↓w_Dct, ↓w_DctM, ↓w_B, ↓w_Call, ↓wMt', ↓pl_nil, ↓pl_cons, ↓wc_P, ↓wc_M, ↓wSl', ↓wo_No, ↓woS', ↓wRlv, ↓wRlm, ↓ws_Nil, ↓ws_Cons, ↓then_nx, ↓then_rt, ↓ws_Asg, ↓wg_Nm, ↓wg_Tp, ↓wgs_Nil, ↓wgs_Cons, ↓wgSb', ↓ws_Par, ↓aug0, ↓aug1, ↓aug2, ↓aug3, ↓aug4, ↓aug5, ↓aug6, ↓aug7, ↓aug8, ↓aug9, ↓aug10, ↓aug11, ↓aug12, ↓aug13, ↓aug14, ↓aug15, ↓aug16, ↓aug17, ↓wAugS', ↓ws_Ret, ↓ws_RetT, ↓ws_Drop, ↓ws_For, ↓wSq', ↓wRg', ↓rg1, ↓rg2, ↓rg3, ↓rl1, ↓rl2, ↓rl3, ↓wEn', ↓enV, ↓wZp', ↓zpVV, ↓zpVB, ↓g_add, ↓g_addL, ↓g_addT, ↓g_iadd, ↓g_sub, ↓g_mul, ↓g_mulL, ↓g_fdiv, ↓g_mod, ↓g_pow, ↓g_lt, ↓g_le, ↓g_gt, ↓g_ge, ↓g_eqI, ↓g_neI, ↓g_is, ↓g_isnt, ↓g_ixT, ↓g_ixL, ↓g_ixD, ↓gl_abs, ↓gl_max, ↓gl_min, ↓gl_int, ↓gl_intB, ↓gl_gcd, ↓gl_lenL, ↓gl_lenT, ↓gl_tupL, ↓gl_tupT, ↓gl_lstL, ↓gl_lstT, ↓gl_rep, ↓gl_sortD, ↓gl_sortL, ↓ngI, ↓slL, ↓slT, ↓slS, ↓bo, ↓io, ↓av0, ↓av1, ↓itL, ↓itT, ↓it0, ↓it1, ↓it2, ↓itB, ↓rtB, ↓rt_v, ↓g_ninI, ↓g_inI, ↓w_Lc, ↓w_LcM, ↓turn_nx, wipeL_cons, wipeL_nil, ↓sw0, ↓sw1, ↓sw2, ↓gix2, ↓app0, ↓app1, ↓app2, ↓appB, ↓isL0, ↓isL1, ↓isL2, ↓isLB, ↓isLv, ↓at_head, ↓v0, ↓v1, ↓v2, ↓v3, ↓v4, ↓v5, ↓v6, ↓v7, ↓v8, ↓v9, ↓v10, ↓v11, ↓v12, ↓v13, ↓v14, ↓v15, ↓v16, ↓v17, ↓t0, ↓t1, ↓t2, ↓t3, ↓t4, ↓t5, ↓t6, ↓t7, ↓t8, ↓setAll0, ↓setAll1, List.set_cons_zero, List.set_cons_succ, decide_eq_true_eq, Bool.not_eq_true', decide_eq_false_iff_not]
      refine ⟨?_, ?_⟩
      · rw [small_of]
        have := zip_le (ms.map Lamp.v) (rs.map PV.int)
        rw [List.length_map] at this
        omega
      refine wl_inv (fun i acc S' => S' = o' :: (R ++ [.dct true (ls.map Lamp.key) (ls.map Lamp.v)]) ∧ ∃ qs : List Lamp, acc = qs.map Lamp.v ∧ qs.length ≤ i ∧ ∀ m ∈ qs, m.Ok) ⟨rfl, [], rfl, Nat.le_refl _, by simp⟩ ?_ ?_
      · rintro i x acc S' hx ⟨rfl, qs, rfl, hqs, hqo⟩
        obtain ⟨u, w, hu, hw, rfl⟩ := zip_mem (List.mem_of_getElem? hx)
        obtain ⟨l, hl, rfl⟩ := List.mem_map.mp hu
        obtain ⟨q, _, rfl⟩ := List.mem_map.mp hw
        refine ⟨ok_nil _, ?_⟩
        simp only [↓w_c, ↓w_e2, ↓we1', ↓p_v, ↓pr0, ↓pr1, ↓pr2, ↓pr3, ↓prA, ↓prB, ↓poL, ↓poD, ↓wB', ↓wt_N, ↓wt_An, ↓wt_Or, ↓wt_Ye, ↓w_Bo, ↓w_An, ↓w_Or, ↓w_If, ↓ws_If, ↓wa_Nil, ↓wa_Cons, ↓wTup', ↓wLst', ↓wLstM', ↓w_Dct, ↓w_DctM, ↓w_B, ↓w_Call, ↓wMt', ↓pl_nil, ↓pl_cons, ↓wc_P, ↓wc_M, ↓wSl', ↓wo_No, ↓woS', ↓wRlv, ↓wRlm, ↓ws_Nil, ↓ws_Cons, ↓then_nx, ↓then_rt, ↓ws_Asg, ↓wg_Nm, ↓wg_Tp, ↓wgs_Nil, ↓wgs_Cons, ↓wgSb', ↓ws_Par, ↓aug0, ↓aug1, ↓aug2, ↓aug3, ↓aug4, ↓aug5, ↓aug6, ↓aug7, ↓aug8, ↓aug9, ↓aug10, ↓aug11, ↓aug12, ↓aug13, ↓aug14, ↓aug15, ↓aug16, ↓aug17, ↓wAugS', ↓ws_Ret, ↓ws_RetT, ↓ws_Drop, ↓ws_For, ↓wSq', ↓wRg', ↓rg1, ↓rg2, ↓rg3, ↓rl1, ↓rl2, ↓rl3, ↓wEn', ↓enV, ↓wZp', ↓zpVV, ↓zpVB, ↓g_add, ↓g_addL, ↓g_addT, ↓g_iadd, ↓g_sub, ↓g_mul, ↓g_mulL, ↓g_fdiv, ↓g_mod, ↓g_pow, ↓g_lt, ↓g_le, ↓g_gt, ↓g_ge, ↓g_eqI, ↓g_neI, ↓g_is, ↓g_isnt, ↓g_ixT, ↓g_ixL, ↓g_ixD, ↓gl_abs, ↓gl_max, ↓gl_min, ↓gl_int, ↓gl_intB, ↓gl_gcd, ↓gl_lenL, ↓gl_lenT, ↓gl_tupL, ↓gl_tupT, ↓gl_lstL, ↓gl_lstT, ↓gl_rep, ↓gl_sortD, ↓gl_sortL, ↓ngI, ↓slL, ↓slT, ↓slS, ↓bo, ↓io, ↓av0, ↓av1, ↓itL, ↓itT, ↓it0, ↓it1, ↓it2, ↓itB, ↓rtB, ↓rt_v, ↓g_ninI, ↓g_inI, ↓w_Lc, ↓w_LcM, ↓turn_nx, wipeL_cons, wipeL_nil, ↓sw0, ↓sw1, ↓sw2, ↓gix2, ↓app0, ↓app1, ↓app2, ↓appB, ↓isL0, ↓isL1, ↓isL2, ↓isLB, ↓isLv, ↓at_head, ↓v0, ↓v1, ↓v2, ↓v3, ↓v4, ↓v5, ↓v6, ↓v7, ↓v8, ↓v9, ↓v10, ↓v11, ↓v12, ↓v13, ↓v14, ↓v15, ↓v16, ↓v17, ↓t0, ↓t1, ↓t2, ↓t3, ↓t4, ↓t5, ↓t6, ↓t7, ↓t8, ↓setAll0, ↓setAll1, List.set_cons_zero, List.set_cons_succ, decide_eq_true_eq, Bool.not_eq_true', decide_eq_false_iff_not]
        refine ⟨rfl, ?_⟩
        split
        · exact ⟨l.v, rfl, trivial, qs ++ [l], by simp, by simp; omega, fun m hm => by
            rcases List.mem_append.mp hm with hm | hm
            · exact hqo m hm
            · have : m = l := by simpa using hm
              rw [this]
              exact hmo l hl⟩
        · exact ⟨trivial, qs, rfl, by omega, hqo⟩
      · rintro acc S' ⟨rfl, qs, rfl, hqs, hqo⟩
        refine ⟨ok_nil _, ?_⟩
        try (simp only [↓w_c, ↓w_e2, ↓we1', ↓p_v, ↓pr0, ↓pr1, ↓pr2, ↓pr3, ↓prA, ↓prB, ↓poL, ↓poD, ↓wB', ↓wt_N, ↓wt_An, ↓wt_Or, ↓wt_Ye, ↓w_Bo, ↓w_An, ↓w_Or, ↓w_If, ↓ws_If, ↓wa_Nil, ↓wa_Cons, ↓wTup', ↓wLst', ↓wLstM', ↓w_Dct, ↓w_DctM, ↓w_B, ↓w_Call, ↓wMt', ↓pl_nil, ↓pl_cons, ↓wc_P, ↓wc_M, ↓wSl', ↓wo_No, ↓woS', ↓wRlv, ↓wRlm, ↓ws_Nil, ↓ws_Cons, ↓then_nx, ↓then_rt, ↓ws_Asg, ↓wg_Nm, ↓wg_Tp, ↓wgs_Nil, ↓wgs_Cons, ↓wgSb', ↓ws_Par, ↓aug0, ↓aug1, ↓aug2, ↓aug3, ↓aug4, ↓aug5, ↓aug6, ↓aug7, ↓aug8, ↓aug9, ↓aug10, ↓aug11, ↓aug12, ↓aug13, ↓aug14, ↓aug15, ↓aug16, ↓aug17, ↓wAugS', ↓ws_Ret, ↓ws_RetT, ↓ws_Drop, ↓ws_For, ↓wSq', ↓wRg', ↓rg1, ↓rg2, ↓rg3, ↓rl1, ↓rl2, ↓rl3, ↓wEn', ↓enV, ↓wZp', ↓zpVV, ↓zpVB, ↓g_add, ↓g_addL, ↓g_addT, ↓g_iadd, ↓g_sub, ↓g_mul, ↓g_mulL, ↓g_fdiv, ↓g_mod, ↓g_pow, ↓g_lt, ↓g_le, ↓g_gt, ↓g_ge, ↓g_eqI, ↓g_neI, ↓g_is, ↓g_isnt, ↓g_ixT, ↓g_ixL, ↓g_ixD, ↓gl_abs, ↓gl_max, ↓gl_min, ↓gl_int, ↓gl_intB, ↓gl_gcd, ↓gl_lenL, ↓gl_lenT, ↓gl_tupL, ↓gl_tupT, ↓gl_lstL, ↓gl_lstT, ↓gl_rep, ↓gl_sortD, ↓gl_sortL, ↓ngI, ↓slL, ↓slT, ↓slS, ↓bo, ↓io, ↓av0, ↓av1, ↓itL, ↓itT, ↓it0, ↓it1, ↓it2, ↓itB, ↓rtB, ↓rt_v, ↓g_ninI, ↓g_inI, ↓w_Lc, ↓w_LcM, ↓turn_nx, wipeL_cons, wipeL_nil, ↓sw0, ↓sw1, ↓sw2, ↓gix2, ↓app0, ↓app1, ↓app2, ↓appB, ↓isL0, ↓isL1, ↓isL2, ↓isLB, ↓isLv, ↓at_head, ↓v0, ↓v1, ↓v2, ↓v3, ↓v4, ↓v5, ↓v6, ↓v7, ↓v8, ↓v9, ↓v10, ↓v11, ↓v12, ↓v13, ↓v14, ↓v15, ↓v16, ↓v17, ↓t0, ↓t1, ↓t2, ↓t3, ↓t4, ↓t5, ↓t6, ↓t7, ↓t8, ↓setAll0, ↓setAll1, List.set_cons_zero, List.set_cons_succ, decide_eq_true_eq, Bool.not_eq_true', decide_eq_false_iff_not])
        have := zip_le (ms.map Lamp.v) (rs.map PV.int)
        rw [List.length_map] at this
        exact endA (k qs o' hqo (by omega) hB')
end K61

namespace K61
open PySem PySem.Spec PyProof.Rows L2 Dn
structure Scene where
  (t h : Int) (p : List Lamp)
def Scene.v (s : Scene) : PV := .tup [.int s.t, .int s.h, .tup (s.p.map Lamp.v)]
structure Show where
  (b : Bnd) (pads : List (Int × Int)) (c0 c1 c2 : Int) (sc : List Scene)
def padV (p : Int × Int) : PV := .tup [.int p.1, .int p.2]
def Show.v (s : Show) : PV := .tup [s.b.v, .tup (s.pads.map padV), .tup [.int s.c0, .int s.c1, .int s.c2], .tup (s.sc.map Scene.v)]
structure Scene.Ok (s : Scene) : Prop where
  t : 1 ≤ s.t ∧ s.t ≤ 10000
  h : 0 ≤ s.h ∧ s.h ≤ 100
  p : (∀ l ∈ s.p, l.Ok) ∧ s.p.length ≤ 6
structure Show.Ok (s : Show) : Prop where
  b : s.b.In
  pads : (1 ≤ s.pads.length ∧ s.pads.length ≤ 3) ∧ ∀ p ∈ s.pads, (0 ≤ p.1 ∧ p.1 ≤ 1000) ∧ 0 ≤ p.2 ∧ p.2 ≤ 1000
  c0 : 0 ≤ s.c0 ∧ s.c0 ≤ 1000000
  c1 : 0 ≤ s.c1 ∧ s.c1 ≤ 3
  c2 : 0 ≤ s.c2 ∧ s.c2 ≤ 3
  sc : (1 ≤ s.sc.length ∧ s.sc.length ≤ 2) ∧ ∀ q ∈ s.sc, q.Ok
theorem w_showof {R : Sto} {o : SO} {b : Bnd} {pads : List (Int × Int)} {sc : List Scene} {more : Int} {Q : RV → Sto → Prop} (hB : BagO o) (hb : b.In) (hp : (1 ≤ pads.length ∧ pads.length ≤ 3) ∧ ∀ p ∈ pads, (0 ≤ p.1 ∧ p.1 ≤ 1000) ∧ 0 ≤ p.2 ∧ p.2 ≤ 1000) (hs : (1 ≤ sc.length ∧ sc.length ≤ 2) ∧ ∀ q ∈ sc, q.Ok) (hmore : 0 ≤ more ∧ more ≤ 5)
    (k : ∀ (s : Show) o', s.Ok → BagO o' → Q (.v s.v) (o' :: .lst (pads.map padV) :: .lst (sc.map Scene.v) :: R)) :
    WC c__law_show_of [.ref 0, .v b.v, .ref 1, .ref 2, .v (.int more)] (o :: .lst (pads.map padV) :: .lst (sc.map Scene.v) :: R) Q := by
  refine wc_d rfl ?_
  unfold m__law_show_of d__law_show_of_1 d__law_show_of_2
  show W _ [some (.ref 0), some (.v b.v), some (.ref 1), some (.ref 2), some (.v (.int more)), none, none, none, none, none, none] _ _
  try (simp only [↓w_c, ↓w_e2, ↓we1', ↓p_v, ↓pr0, ↓pr1, ↓pr2, ↓pr3, ↓prA, ↓prB, ↓poL, ↓poD, ↓wB', ↓wt_N, ↓wt_An, ↓wt_Or, ↓wt_Ye, ↓w_Bo, ↓w_An, ↓w_Or, ↓w_If, ↓ws_If, ↓wa_Nil, ↓wa_Cons, ↓wTup', ↓wLst', ↓wLstM', ↓w_Dct, ↓w_DctM, ↓w_B, ↓w_Call, ↓wMt', ↓pl_nil, ↓pl_cons, ↓wc_P, ↓wc_M, ↓wSl', ↓wo_No, ↓woS', ↓wRlv, ↓wRlm, ↓ws_Nil, ↓ws_Cons, ↓then_nx, ↓then_rt, ↓ws_Asg, ↓wg_Nm, ↓wg_Tp, ↓wgs_Nil, ↓wgs_Cons, ↓wgSb', ↓ws_Par, ↓aug0, ↓aug1, ↓aug2, ↓aug3, ↓aug4, ↓aug5, ↓aug6, ↓aug7, ↓aug8, ↓aug9, ↓aug10, ↓aug11, ↓aug12, ↓aug13, ↓aug14, ↓aug15, ↓aug16, ↓aug17, ↓wAugS', ↓ws_Ret, ↓ws_RetT, ↓ws_Drop, ↓ws_For, ↓wSq', ↓wRg', ↓rg1, ↓rg2, ↓rg3, ↓rl1, ↓rl2, ↓rl3, ↓wEn', ↓enV, ↓wZp', ↓zpVV, ↓zpVB, ↓g_add, ↓g_addL, ↓g_addT, ↓g_iadd, ↓g_sub, ↓g_mul, ↓g_mulL, ↓g_fdiv, ↓g_mod, ↓g_pow, ↓g_lt, ↓g_le, ↓g_gt, ↓g_ge, ↓g_eqI, ↓g_neI, ↓g_is, ↓g_isnt, ↓g_ixT, ↓g_ixL, ↓g_ixD, ↓gl_abs, ↓gl_max, ↓gl_min, ↓gl_int, ↓gl_intB, ↓gl_gcd, ↓gl_lenL, ↓gl_lenT, ↓gl_tupL, ↓gl_tupT, ↓gl_lstL, ↓gl_lstT, ↓gl_rep, ↓gl_sortD, ↓gl_sortL, ↓ngI, ↓slL, ↓slT, ↓slS, ↓bo, ↓io, ↓av0, ↓av1, ↓itL, ↓itT, ↓it0, ↓it1, ↓it2, ↓itB, ↓rtB, ↓rt_v, ↓g_ninI, ↓g_inI, ↓w_Lc, ↓w_LcM, ↓turn_nx, wipeL_cons, wipeL_nil, ↓sw0, ↓sw1, ↓sw2, ↓gix2, ↓app0, ↓app1, ↓app2, ↓appB, ↓isL0, ↓isL1, ↓isL2, ↓isLB, ↓isLv, ↓at_head, ↓v0, ↓v1, ↓v2, ↓v3, ↓v4, ↓v5, ↓v6, ↓v7, ↓v8, ↓v9, ↓v10, ↓v11, ↓v12, ↓v13, ↓v14, ↓v15, ↓v16, ↓v17, ↓t0, ↓t1, ↓t2, ↓t3, ↓t4, ↓t5, ↓t6, ↓t7, ↓t8, ↓setAll0, ↓setAll1, List.set_cons_zero, List.set_cons_succ, decide_eq_true_eq, Bool.not_eq_true', decide_eq_false_iff_not])
  refine ⟨rfl, rfl, w_someI [1, 0, 2] hB (by decide) (by decide) fun ho o1 hho hB1 => ?_⟩
  try (simp only [↓w_c, ↓w_e2, ↓we1', ↓p_v, ↓pr0, ↓pr1, ↓pr2, ↓pr3, ↓prA, ↓prB, ↓poL, ↓poD, ↓wB', ↓wt_N, ↓wt_An, ↓wt_Or, ↓wt_Ye, ↓w_Bo, ↓w_An, ↓w_Or, ↓w_If, ↓ws_If, ↓wa_Nil, ↓wa_Cons, ↓wTup', ↓wLst', ↓wLstM', ↓w_Dct, ↓w_DctM, ↓w_B, ↓w_Call, ↓wMt', ↓pl_nil, ↓pl_cons, ↓wc_P, ↓wc_M, ↓wSl', ↓wo_No, ↓woS', ↓wRlv, ↓wRlm, ↓ws_Nil, ↓ws_Cons, ↓then_nx, ↓then_rt, ↓ws_Asg, ↓wg_Nm, ↓wg_Tp, ↓wgs_Nil, ↓wgs_Cons, ↓wgSb', ↓ws_Par, ↓aug0, ↓aug1, ↓aug2, ↓aug3, ↓aug4, ↓aug5, ↓aug6, ↓aug7, ↓aug8, ↓aug9, ↓aug10, ↓aug11, ↓aug12, ↓aug13, ↓aug14, ↓aug15, ↓aug16, ↓aug17, ↓wAugS', ↓ws_Ret, ↓ws_RetT, ↓ws_Drop, ↓ws_For, ↓wSq', ↓wRg', ↓rg1, ↓rg2, ↓rg3, ↓rl1, ↓rl2, ↓rl3, ↓wEn', ↓enV, ↓wZp', ↓zpVV, ↓zpVB, ↓g_add, ↓g_addL, ↓g_addT, ↓g_iadd, ↓g_sub, ↓g_mul, ↓g_mulL, ↓g_fdiv, ↓g_mod, ↓g_pow, ↓g_lt, ↓g_le, ↓g_gt, ↓g_ge, ↓g_eqI, ↓g_neI, ↓g_is, ↓g_isnt, ↓g_ixT, ↓g_ixL, ↓g_ixD, ↓gl_abs, ↓gl_max, ↓gl_min, ↓gl_int, ↓gl_intB, ↓gl_gcd, ↓gl_lenL, ↓gl_lenT, ↓gl_tupL, ↓gl_tupT, ↓gl_lstL, ↓gl_lstT, ↓gl_rep, ↓gl_sortD, ↓gl_sortL, ↓ngI, ↓slL, ↓slT, ↓slS, ↓bo, ↓io, ↓av0, ↓av1, ↓itL, ↓itT, ↓it0, ↓it1, ↓it2, ↓itB, ↓rtB, ↓rt_v, ↓g_ninI, ↓g_inI, ↓w_Lc, ↓w_LcM, ↓turn_nx, wipeL_cons, wipeL_nil, ↓sw0, ↓sw1, ↓sw2, ↓gix2, ↓app0, ↓app1, ↓app2, ↓appB, ↓isL0, ↓isL1, ↓isL2, ↓isLB, ↓isLv, ↓at_head, ↓v0, ↓v1, ↓v2, ↓v3, ↓v4, ↓v5, ↓v6, ↓v7, ↓v8, ↓v9, ↓v10, ↓v11, ↓v12, ↓v13, ↓v14, ↓v15, ↓v16, ↓v17, ↓t0, ↓t1, ↓t2, ↓t3, ↓t4, ↓t5, ↓t6, ↓t7, ↓t8, ↓setAll0, ↓setAll1, List.set_cons_zero, List.set_cons_succ, decide_eq_true_eq, Bool.not_eq_true', decide_eq_false_iff_not])
  refine ⟨rfl, rfl, w_someI [2, 1, 3] hB1 (by decide) (by decide) fun fy o2 hfy hB2 => ?_⟩
  simp only [List.mem_cons, List.not_mem_nil, or_false] at hho hfy
  try (simp only [↓w_c, ↓w_e2, ↓we1', ↓p_v, ↓pr0, ↓pr1, ↓pr2, ↓pr3, ↓prA, ↓prB, ↓poL, ↓poD, ↓wB', ↓wt_N, ↓wt_An, ↓wt_Or, ↓wt_Ye, ↓w_Bo, ↓w_An, ↓w_Or, ↓w_If, ↓ws_If, ↓wa_Nil, ↓wa_Cons, ↓wTup', ↓wLst', ↓wLstM', ↓w_Dct, ↓w_DctM, ↓w_B, ↓w_Call, ↓wMt', ↓pl_nil, ↓pl_cons, ↓wc_P, ↓wc_M, ↓wSl', ↓wo_No, ↓woS', ↓wRlv, ↓wRlm, ↓ws_Nil, ↓ws_Cons, ↓then_nx, ↓then_rt, ↓ws_Asg, ↓wg_Nm, ↓wg_Tp, ↓wgs_Nil, ↓wgs_Cons, ↓wgSb', ↓ws_Par, ↓aug0, ↓aug1, ↓aug2, ↓aug3, ↓aug4, ↓aug5, ↓aug6, ↓aug7, ↓aug8, ↓aug9, ↓aug10, ↓aug11, ↓aug12, ↓aug13, ↓aug14, ↓aug15, ↓aug16, ↓aug17, ↓wAugS', ↓ws_Ret, ↓ws_RetT, ↓ws_Drop, ↓ws_For, ↓wSq', ↓wRg', ↓rg1, ↓rg2, ↓rg3, ↓rl1, ↓rl2, ↓rl3, ↓wEn', ↓enV, ↓wZp', ↓zpVV, ↓zpVB, ↓g_add, ↓g_addL, ↓g_addT, ↓g_iadd, ↓g_sub, ↓g_mul, ↓g_mulL, ↓g_fdiv, ↓g_mod, ↓g_pow, ↓g_lt, ↓g_le, ↓g_gt, ↓g_ge, ↓g_eqI, ↓g_neI, ↓g_is, ↓g_isnt, ↓g_ixT, ↓g_ixL, ↓g_ixD, ↓gl_abs, ↓gl_max, ↓gl_min, ↓gl_int, ↓gl_intB, ↓gl_gcd, ↓gl_lenL, ↓gl_lenT, ↓gl_tupL, ↓gl_tupT, ↓gl_lstL, ↓gl_lstT, ↓gl_rep, ↓gl_sortD, ↓gl_sortL, ↓ngI, ↓slL, ↓slT, ↓slS, ↓bo, ↓io, ↓av0, ↓av1, ↓itL, ↓itT, ↓it0, ↓it1, ↓it2, ↓itB, ↓rtB, ↓rt_v, ↓g_ninI, ↓g_inI, ↓w_Lc, ↓w_LcM, ↓turn_nx, wipeL_cons, wipeL_nil, ↓sw0, ↓sw1, ↓sw2, ↓gix2, ↓app0, ↓app1, ↓app2, ↓appB, ↓isL0, ↓isL1, ↓isL2, ↓isLB, ↓isLv, ↓at_head, ↓v0, ↓v1, ↓v2, ↓v3, ↓v4, ↓v5, ↓v6, ↓v7, ↓v8, ↓v9, ↓v10, ↓v11, ↓v12, ↓v13, ↓v14, ↓v15, ↓v16, ↓v17, ↓t0, ↓t1, ↓t2, ↓t3, ↓t4, ↓t5, ↓t6, ↓t7, ↓t8, ↓setAll0, ↓setAll1, List.set_cons_zero, List.set_cons_succ, decide_eq_true_eq, Bool.not_eq_true', decide_eq_false_iff_not])
  refine ⟨⟨rfl, rfl⟩, ?_⟩
  refine wf_inv (fun i r S' => S' = o2 :: .lst (pads.map padV) :: .lst (sc.map Scene.v) :: R ∧ ∃ (full : Int) (x y z : Option RV), 0 ≤ full ∧ full ≤ 100000 * i ∧ i ≤ 2 ∧
    r = [some (.ref 0), some (.v b.v), some (.ref 1), some (.ref 2), some (.v (.int more)), some (.v (.int full)), some (.v (.int ho)), some (.v (.int fy)), x, y, z]) ⟨rfl, 0, _, _, _, by omega, by omega, by omega, rfl⟩ ?_ ?_
  · rintro i x r S' hx ⟨rfl, full, x', y, z, h0, h1, hi, rfl⟩
    rw [List.getElem?_map] at hx
    obtain ⟨q, hq, rfl⟩ := Option.map_eq_some_iff.mp hx
    have hi2 := (List.getElem?_eq_some_iff.mp hq).1
    have hqo := hs.2 q (List.mem_of_getElem? hq)
    have hqt := hqo.t
    have hqh := hqo.h
    refine ⟨fun p hp => by
      have : p = (2, .lst (sc.map Scene.v)) := by simpa using hp
      subst this
      rfl, ?_⟩
    unfold b__law_show_of_1 Scene.v
    try (simp only [↓w_c, ↓w_e2, ↓we1', ↓p_v, ↓pr0, ↓pr1, ↓pr2, ↓pr3, ↓prA, ↓prB, ↓poL, ↓poD, ↓wB', ↓wt_N, ↓wt_An, ↓wt_Or, ↓wt_Ye, ↓w_Bo, ↓w_An, ↓w_Or, ↓w_If, ↓ws_If, ↓wa_Nil, ↓wa_Cons, ↓wTup', ↓wLst', ↓wLstM', ↓w_Dct, ↓w_DctM, ↓w_B, ↓w_Call, ↓wMt', ↓pl_nil, ↓pl_cons, ↓wc_P, ↓wc_M, ↓wSl', ↓wo_No, ↓woS', ↓wRlv, ↓wRlm, ↓ws_Nil, ↓ws_Cons, ↓then_nx, ↓then_rt, ↓ws_Asg, ↓wg_Nm, ↓wg_Tp, ↓wgs_Nil, ↓wgs_Cons, ↓wgSb', ↓ws_Par, ↓aug0, ↓aug1, ↓aug2, ↓aug3, ↓aug4, ↓aug5, ↓aug6, ↓aug7, ↓aug8, ↓aug9, ↓aug10, ↓aug11, ↓aug12, ↓aug13, ↓aug14, ↓aug15, ↓aug16, ↓aug17, ↓wAugS', ↓ws_Ret, ↓ws_RetT, ↓ws_Drop, ↓ws_For, ↓wSq', ↓wRg', ↓rg1, ↓rg2, ↓rg3, ↓rl1, ↓rl2, ↓rl3, ↓wEn', ↓enV, ↓wZp', ↓zpVV, ↓zpVB, ↓g_add, ↓g_addL, ↓g_addT, ↓g_iadd, ↓g_sub, ↓g_mul, ↓g_mulL, ↓g_fdiv, ↓g_mod, ↓g_pow, ↓g_lt, ↓g_le, ↓g_gt, ↓g_ge, ↓g_eqI, ↓g_neI, ↓g_is, ↓g_isnt, ↓g_ixT, ↓g_ixL, ↓g_ixD, ↓gl_abs, ↓gl_max, ↓gl_min, ↓gl_int, ↓gl_intB, ↓gl_gcd, ↓gl_lenL, ↓gl_lenT, ↓gl_tupL, ↓gl_tupT, ↓gl_lstL, ↓gl_lstT, ↓gl_rep, ↓gl_sortD, ↓gl_sortL, ↓ngI, ↓slL, ↓slT, ↓slS, ↓bo, ↓io, ↓av0, ↓av1, ↓itL, ↓itT, ↓it0, ↓it1, ↓it2, ↓itB, ↓rtB, ↓rt_v, ↓g_ninI, ↓g_inI, ↓w_Lc, ↓w_LcM, ↓turn_nx, wipeL_cons, wipeL_nil, ↓sw0, ↓sw1, ↓sw2, ↓gix2, ↓app0, ↓app1, ↓app2, ↓appB, ↓isL0, ↓isL1, ↓isL2, ↓isLB, ↓isLv, ↓at_head, ↓v0, ↓v1, ↓v2, ↓v3, ↓v4, ↓v5, ↓v6, ↓v7, ↓v8, ↓v9, ↓v10, ↓v11, ↓v12, ↓v13, ↓v14, ↓v15, ↓v16, ↓v17, ↓t0, ↓t1, ↓t2, ↓t3, ↓t4, ↓t5, ↓t6, ↓t7, ↓t8, ↓setAll0, ↓setAll1, List.set_cons_zero, List.set_cons_succ, decide_eq_true_eq, Bool.not_eq_true', decide_eq_false_iff_not])
    refine ⟨rfl, mul_l (by omega) (by omega), ?_⟩
    generalize hmx : (if fy > ho then fy else ho) = mx
    have hmx' : 0 ≤ mx ∧ mx ≤ 3 := by
      rw [← hmx]
      split <;> omega
    refine ⟨mul_l (by omega) (by omega), trivial, _, _, _, _, ?_, ?_, ?_, rfl⟩
    · have a1 := Int.mul_nonneg (show 0 ≤ ho by omega) hqh.1
      have a2 := Int.mul_nonneg hmx'.1 (show 0 ≤ q.t by omega)
      omega
    · have a1 : ho * q.h ≤ 2 * 100 := Int.mul_le_mul (by omega) hqh.2 hqh.1 (by decide)
      have a2 : mx * q.t ≤ 3 * 10000 := Int.mul_le_mul hmx'.2 hqt.2 (by omega) (by decide)
      omega
    · omega
  · rintro r S' ⟨rfl, full, x', y, z, h0, h1, hi, rfl⟩
    refine ⟨fun p hp => by
      have : p = (2, .lst (sc.map Scene.v)) := by simpa using hp
      subst this
      rfl, ?_⟩
    try (simp only [↓w_c, ↓w_e2, ↓we1', ↓p_v, ↓pr0, ↓pr1, ↓pr2, ↓pr3, ↓prA, ↓prB, ↓poL, ↓poD, ↓wB', ↓wt_N, ↓wt_An, ↓wt_Or, ↓wt_Ye, ↓w_Bo, ↓w_An, ↓w_Or, ↓w_If, ↓ws_If, ↓wa_Nil, ↓wa_Cons, ↓wTup', ↓wLst', ↓wLstM', ↓w_Dct, ↓w_DctM, ↓w_B, ↓w_Call, ↓wMt', ↓pl_nil, ↓pl_cons, ↓wc_P, ↓wc_M, ↓wSl', ↓wo_No, ↓woS', ↓wRlv, ↓wRlm, ↓ws_Nil, ↓ws_Cons, ↓then_nx, ↓then_rt, ↓ws_Asg, ↓wg_Nm, ↓wg_Tp, ↓wgs_Nil, ↓wgs_Cons, ↓wgSb', ↓ws_Par, ↓aug0, ↓aug1, ↓aug2, ↓aug3, ↓aug4, ↓aug5, ↓aug6, ↓aug7, ↓aug8, ↓aug9, ↓aug10, ↓aug11, ↓aug12, ↓aug13, ↓aug14, ↓aug15, ↓aug16, ↓aug17, ↓wAugS', ↓ws_Ret, ↓ws_RetT, ↓ws_Drop, ↓ws_For, ↓wSq', ↓wRg', ↓rg1, ↓rg2, ↓rg3, ↓rl1, ↓rl2, ↓rl3, ↓wEn', ↓enV, ↓wZp', ↓zpVV, ↓zpVB, ↓g_add, ↓g_addL, ↓g_addT, ↓g_iadd, ↓g_sub, ↓g_mul, ↓g_mulL, ↓g_fdiv, ↓g_mod, ↓g_pow, ↓g_lt, ↓g_le, ↓g_gt, ↓g_ge, ↓g_eqI, ↓g_neI, ↓g_is, ↓g_isnt, ↓g_ixT, ↓g_ixL, ↓g_ixD, ↓gl_abs, ↓gl_max, ↓gl_min, ↓gl_int, ↓gl_intB, ↓gl_gcd, ↓gl_lenL, ↓gl_lenT, ↓gl_tupL, ↓gl_tupT, ↓gl_lstL, ↓gl_lstT, ↓gl_rep, ↓gl_sortD, ↓gl_sortL, ↓ngI, ↓slL, ↓slT, ↓slS, ↓bo, ↓io, ↓av0, ↓av1, ↓itL, ↓itT, ↓it0, ↓it1, ↓it2, ↓itB, ↓rtB, ↓rt_v, ↓g_ninI, ↓g_inI, ↓w_Lc, ↓w_LcM, ↓turn_nx, wipeL_cons, wipeL_nil, ↓sw0, ↓sw1, ↓sw2, ↓gix2, ↓app0, ↓app1, ↓app2, ↓appB, ↓isL0, ↓isL1, ↓isL2, ↓isLB, ↓isLv, ↓at_head, ↓v0, ↓v1, ↓v2, ↓v3, ↓v4, ↓v5, ↓v6, ↓v7, ↓v8, ↓v9, ↓v10, ↓v11, ↓v12, ↓v13, ↓v14, ↓v15, ↓v16, ↓v17, ↓t0, ↓t1, ↓t2, ↓t3, ↓t4, ↓t5, ↓t6, ↓t7, ↓t8, ↓setAll0, ↓setAll1, List.set_cons_zero, List.set_cons_succ, decide_eq_true_eq, Bool.not_eq_true', decide_eq_false_iff_not])
    refine ⟨rfl, rfl, Nat.le_refl _, ?_⟩
    rw [show List.take (o :: SO.lst (pads.map padV) :: SO.lst (sc.map Scene.v) :: R).length (o2 :: SO.lst (pads.map padV) :: SO.lst (sc.map Scene.v) :: R) = o2 :: SO.lst (pads.map padV) :: SO.lst (sc.map Scene.v) :: R by simp]
    rw [List.length_map] at h1 hi
    exact k ⟨b, pads, full + more, ho, fy, sc⟩ o2 ⟨hb, hp, ⟨by show 0 ≤ full + more; omega, by show full + more ≤ 1000000; omega⟩, ⟨by show 0 ≤ ho; omega, by show ho ≤ 3; omega⟩, ⟨by show 0 ≤ fy; omega, by show fy ≤ 3; omega⟩, hs⟩ hB2
end K61

namespace K61
open PySem PySem.Spec PyProof.Rows L2 Dn
theorem eqv_nil (is : List Int) : eqvP (.lst (is.map PV.int)) (.lst []) = is.isEmpty := by
  cases is with
  | nil =>
    unfold eqvP toD toDL
    simp [PyData.eqv, PyData.eqvAll]
  | cons i is =>
    unfold eqvP toD
    simp [toDL, PyData.eqv, PyData.eqvAll]
theorem g_neNil {is : List Int} {Q : PV → Prop} : G neP (.lst (is.map PV.int)) (.lst []) Q ↔ Q (.bl (!is.isEmpty)) := by
  refine (G_of (z := .bl (!eqvP (.lst (is.map PV.int)) (.lst []))) ?_).trans (by rw [eqv_nil])
  have h : dataOk (.lst (is.map PV.int)) = true := by
    unfold dataOk plainP dep
    rw [plainL_ints, depL_ints]
    rfl
  unfold neP
  rw [h]
  rfl
theorem fall_ok {b : Bnd} (h : b.Ok) : ({ b with nr := 1, wd := 0, ck := 0, fl := 0 } : Bnd).In ∧ ({ b with nr := 1, wd := 0, ck := 0, fl := 0 } : Bnd).enough 9990 = true := by
  have hi := h.in_
  refine ⟨⟨hi.sp, ⟨(by decide : (1:Int) ≤ 1), (by decide : (1:Int) ≤ 14)⟩, ⟨(by decide : (0:Int) ≤ 0), (by decide : (0:Int) ≤ 1)⟩, ⟨(by decide : (0:Int) ≤ 0), (by decide : (0:Int) ≤ 2)⟩, ⟨(by decide : (0:Int) ≤ 0), (by decide : (0:Int) ≤ 6)⟩, hi.wy, hi.g, hi.h, hi.d⟩, ?_⟩
  obtain ⟨w, hw, e⟩ := h.wy
  have hs := h.sp
  show (if b.sp * b.sp < 2 * (1 + 2 * 0) * (1 + 2 * 0) then false else if 0 ≤ (b.sp * b.sp + 2 * (1 + 2 * 0) * (1 + 2 * 0)) * 9990 * 9990 - (0 + 2 * 0) * (0 + 2 * 0) * (2 * b.wy * b.wy - b.sp * b.sp) then decide (8 * b.sp * b.sp * (1 + 2 * 0) * (1 + 2 * 0) * 9990 * 9990 * 9990 * 9990 ≤ ((b.sp * b.sp + 2 * (1 + 2 * 0) * (1 + 2 * 0)) * 9990 * 9990 - (0 + 2 * 0) * (0 + 2 * 0) * (2 * b.wy * b.wy - b.sp * b.sp)) * ((b.sp * b.sp + 2 * (1 + 2 * 0) * (1 + 2 * 0)) * 9990 * 9990 - (0 + 2 * 0) * (0 + 2 * 0) * (2 * b.wy * b.wy - b.sp * b.sp))) else false) = true
  rw [e]
  generalize b.sp = sp at hs ⊢
  simp only [List.mem_cons, List.not_mem_nil, or_false] at hs hw
  rcases hs with rfl | rfl | rfl | rfl | rfl <;> rcases hw with rfl | rfl | rfl | rfl | rfl | rfl | rfl <;> decide
theorem w_show {o : SO} {Q : RV → Sto → Prop} (hB : BagO o) (k : ∀ (s : Show) o', s.Ok → BagO o' → Q (.v s.v) [o']) : WC c__law_show [.ref 0, .v (.int 3), .v (.int 2)] [o] Q := by
  refine wc_d rfl ?_
  unfold m__law_show d__law_show_1 d__law_show_2 d__law_show_3 d__law_show_4
  show W _ [some (.ref 0), some (.v (.int 3)), some (.v (.int 2)), none, none, none, none, none, none, none, none, none, none, none, none, none, none] _ _
  try (simp only [↓w_c, ↓w_e2, ↓we1', ↓p_v, ↓pr0, ↓pr1, ↓pr2, ↓pr3, ↓prA, ↓prB, ↓poL, ↓poD, ↓wB', ↓wt_N, ↓wt_An, ↓wt_Or, ↓wt_Ye, ↓w_Bo, ↓w_An, ↓w_Or, ↓w_If, ↓ws_If, ↓wa_Nil, ↓wa_Cons, ↓wTup', ↓wLst', ↓wLstM', ↓w_Dct, ↓w_DctM, ↓w_B, ↓w_Call, ↓wMt', ↓pl_nil, ↓pl_cons, ↓wc_P, ↓wc_M, ↓wSl', ↓wo_No, ↓woS', ↓wRlv, ↓wRlm, ↓ws_Nil, ↓ws_Cons, ↓then_nx, ↓then_rt, ↓ws_Asg, ↓wg_Nm, ↓wg_Tp, ↓wgs_Nil, ↓wgs_Cons, ↓wgSb', ↓ws_Par, ↓aug0, ↓aug1, ↓aug2, ↓aug3, ↓aug4, ↓aug5, ↓aug6, ↓aug7, ↓aug8, ↓aug9, ↓aug10, ↓aug11, ↓aug12, ↓aug13, ↓aug14, ↓aug15, ↓aug16, ↓aug17, ↓wAugS', ↓ws_Ret, ↓ws_RetT, ↓ws_Drop, ↓ws_For, ↓wSq', ↓wRg', ↓rg1, ↓rg2, ↓rg3, ↓rl1, ↓rl2, ↓rl3, ↓wEn', ↓enV, ↓wZp', ↓zpVV, ↓zpVB, ↓g_add, ↓g_addL, ↓g_addT, ↓g_iadd, ↓g_sub, ↓g_mul, ↓g_mulL, ↓g_fdiv, ↓g_mod, ↓g_pow, ↓g_lt, ↓g_le, ↓g_gt, ↓g_ge, ↓g_eqI, ↓g_neI, ↓g_is, ↓g_isnt, ↓g_ixT, ↓g_ixL, ↓g_ixD, ↓gl_abs, ↓gl_max, ↓gl_min, ↓gl_int, ↓gl_intB, ↓gl_gcd, ↓gl_lenL, ↓gl_lenT, ↓gl_tupL, ↓gl_tupT, ↓gl_lstL, ↓gl_lstT, ↓gl_rep, ↓gl_sortD, ↓gl_sortL, ↓ngI, ↓slL, ↓slT, ↓slS, ↓bo, ↓io, ↓av0, ↓av1, ↓itL, ↓itT, ↓it0, ↓it1, ↓it2, ↓itB, ↓rtB, ↓rt_v, ↓g_ninI, ↓g_inI, ↓w_Lc, ↓w_LcM, ↓turn_nx, wipeL_cons, wipeL_nil, ↓sw0, ↓sw1, ↓sw2, ↓gix2, ↓app0, ↓app1, ↓app2, ↓appB, ↓isL0, ↓isL1, ↓isL2, ↓isLB, ↓isLv, ↓at_head, ↓v0, ↓v1, ↓v2, ↓v3, ↓v4, ↓v5, ↓v6, ↓v7, ↓v8, ↓v9, ↓v10, ↓v11, ↓v12, ↓v13, ↓v14, ↓v15, ↓v16, ↓v17, ↓t0, ↓t1, ↓t2, ↓t3, ↓t4, ↓t5, ↓t6, ↓t7, ↓t8, ↓setAll0, ↓setAll1, List.set_cons_zero, List.set_cons_succ, decide_eq_true_eq, Bool.not_eq_true', decide_eq_false_iff_not])
  refine ⟨rfl, w_bounds hB fun b o1 hb hB1 => ?_⟩
  have hi := hb.in_
  have rest : ∀ (b' : Bnd) (y z : Option RV), b'.In → b'.d = b.d → b'.enough 9990 = true → W d__law_show_5 [some (.ref 0), some (.v (.int 3)), some (.v (.int 2)), some (.v b'.v), some (.v (.int b.sp)), some (.v (.int b.d)), y, none, none, none, none, none, none, none, none, none, z] [o1] (RT [o].length Q) := by
    intro b' y z hb' _ hen
    unfold d__law_show_5 d__law_show_6
    try (simp only [↓w_c, ↓w_e2, ↓we1', ↓p_v, ↓pr0, ↓pr1, ↓pr2, ↓pr3, ↓prA, ↓prB, ↓poL, ↓poD, ↓wB', ↓wt_N, ↓wt_An, ↓wt_Or, ↓wt_Ye, ↓w_Bo, ↓w_An, ↓w_Or, ↓w_If, ↓ws_If, ↓wa_Nil, ↓wa_Cons, ↓wTup', ↓wLst', ↓wLstM', ↓w_Dct, ↓w_DctM, ↓w_B, ↓w_Call, ↓wMt', ↓pl_nil, ↓pl_cons, ↓wc_P, ↓wc_M, ↓wSl', ↓wo_No, ↓woS', ↓wRlv, ↓wRlm, ↓ws_Nil, ↓ws_Cons, ↓then_nx, ↓then_rt, ↓ws_Asg, ↓wg_Nm, ↓wg_Tp, ↓wgs_Nil, ↓wgs_Cons, ↓wgSb', ↓ws_Par, ↓aug0, ↓aug1, ↓aug2, ↓aug3, ↓aug4, ↓aug5, ↓aug6, ↓aug7, ↓aug8, ↓aug9, ↓aug10, ↓aug11, ↓aug12, ↓aug13, ↓aug14, ↓aug15, ↓aug16, ↓aug17, ↓wAugS', ↓ws_Ret, ↓ws_RetT, ↓ws_Drop, ↓ws_For, ↓wSq', ↓wRg', ↓rg1, ↓rg2, ↓rg3, ↓rl1, ↓rl2, ↓rl3, ↓wEn', ↓enV, ↓wZp', ↓zpVV, ↓zpVB, ↓g_add, ↓g_addL, ↓g_addT, ↓g_iadd, ↓g_sub, ↓g_mul, ↓g_mulL, ↓g_fdiv, ↓g_mod, ↓g_pow, ↓g_lt, ↓g_le, ↓g_gt, ↓g_ge, ↓g_eqI, ↓g_neI, ↓g_is, ↓g_isnt, ↓g_ixT, ↓g_ixL, ↓g_ixD, ↓gl_abs, ↓gl_max, ↓gl_min, ↓gl_int, ↓gl_intB, ↓gl_gcd, ↓gl_lenL, ↓gl_lenT, ↓gl_tupL, ↓gl_tupT, ↓gl_lstL, ↓gl_lstT, ↓gl_rep, ↓gl_sortD, ↓gl_sortL, ↓ngI, ↓slL, ↓slT, ↓slS, ↓bo, ↓io, ↓av0, ↓av1, ↓itL, ↓itT, ↓it0, ↓it1, ↓it2, ↓itB, ↓rtB, ↓rt_v, ↓g_ninI, ↓g_inI, ↓w_Lc, ↓w_LcM, ↓turn_nx, wipeL_cons, wipeL_nil, ↓sw0, ↓sw1, ↓sw2, ↓gix2, ↓app0, ↓app1, ↓app2, ↓appB, ↓isL0, ↓isL1, ↓isL2, ↓isLB, ↓isLv, ↓at_head, ↓v0, ↓v1, ↓v2, ↓v3, ↓v4, ↓v5, ↓v6, ↓v7, ↓v8, ↓v9, ↓v10, ↓v11, ↓v12, ↓v13, ↓v14, ↓v15, ↓v16, ↓v17, ↓t0, ↓t1, ↓t2, ↓t3, ↓t4, ↓t5, ↓t6, ↓t7, ↓t8, ↓setAll0, ↓setAll1, List.set_cons_zero, List.set_cons_succ, decide_eq_true_eq, Bool.not_eq_true', decide_eq_false_iff_not])
    refine ⟨rfl, w_first hb' fun x hx => ?_⟩
    rw [if_neg (by
      rintro (q | q)
      · have h1 := hb'.fl
        have h2 := hb'.ck
        unfold Bnd.lag at q
        omega
      · rw [hen] at q
        cases q)] at hx
    obtain ⟨least, rfl, l0, l1⟩ := hx
    try (simp only [↓w_c, ↓w_e2, ↓we1', ↓p_v, ↓pr0, ↓pr1, ↓pr2, ↓pr3, ↓prA, ↓prB, ↓poL, ↓poD, ↓wB', ↓wt_N, ↓wt_An, ↓wt_Or, ↓wt_Ye, ↓w_Bo, ↓w_An, ↓w_Or, ↓w_If, ↓ws_If, ↓wa_Nil, ↓wa_Cons, ↓wTup', ↓wLst', ↓wLstM', ↓w_Dct, ↓w_DctM, ↓w_B, ↓w_Call, ↓wMt', ↓pl_nil, ↓pl_cons, ↓wc_P, ↓wc_M, ↓wSl', ↓wo_No, ↓woS', ↓wRlv, ↓wRlm, ↓ws_Nil, ↓ws_Cons, ↓then_nx, ↓then_rt, ↓ws_Asg, ↓wg_Nm, ↓wg_Tp, ↓wgs_Nil, ↓wgs_Cons, ↓wgSb', ↓ws_Par, ↓aug0, ↓aug1, ↓aug2, ↓aug3, ↓aug4, ↓aug5, ↓aug6, ↓aug7, ↓aug8, ↓aug9, ↓aug10, ↓aug11, ↓aug12, ↓aug13, ↓aug14, ↓aug15, ↓aug16, ↓aug17, ↓wAugS', ↓ws_Ret, ↓ws_RetT, ↓ws_Drop, ↓ws_For, ↓wSq', ↓wRg', ↓rg1, ↓rg2, ↓rg3, ↓rl1, ↓rl2, ↓rl3, ↓wEn', ↓enV, ↓wZp', ↓zpVV, ↓zpVB, ↓g_add, ↓g_addL, ↓g_addT, ↓g_iadd, ↓g_sub, ↓g_mul, ↓g_mulL, ↓g_fdiv, ↓g_mod, ↓g_pow, ↓g_lt, ↓g_le, ↓g_gt, ↓g_ge, ↓g_eqI, ↓g_neI, ↓g_is, ↓g_isnt, ↓g_ixT, ↓g_ixL, ↓g_ixD, ↓gl_abs, ↓gl_max, ↓gl_min, ↓gl_int, ↓gl_intB, ↓gl_gcd, ↓gl_lenL, ↓gl_lenT, ↓gl_tupL, ↓gl_tupT, ↓gl_lstL, ↓gl_lstT, ↓gl_rep, ↓gl_sortD, ↓gl_sortL, ↓ngI, ↓slL, ↓slT, ↓slS, ↓bo, ↓io, ↓av0, ↓av1, ↓itL, ↓itT, ↓it0, ↓it1, ↓it2, ↓itB, ↓rtB, ↓rt_v, ↓g_ninI, ↓g_inI, ↓w_Lc, ↓w_LcM, ↓turn_nx, wipeL_cons, wipeL_nil, ↓sw0, ↓sw1, ↓sw2, ↓gix2, ↓app0, ↓app1, ↓app2, ↓appB, ↓isL0, ↓isL1, ↓isL2, ↓isLB, ↓isLv, ↓at_head, ↓v0, ↓v1, ↓v2, ↓v3, ↓v4, ↓v5, ↓v6, ↓v7, ↓v8, ↓v9, ↓v10, ↓v11, ↓v12, ↓v13, ↓v14, ↓v15, ↓v16, ↓v17, ↓t0, ↓t1, ↓t2, ↓t3, ↓t4, ↓t5, ↓t6, ↓t7, ↓t8, ↓setAll0, ↓setAll1, List.set_cons_zero, List.set_cons_succ, decide_eq_true_eq, Bool.not_eq_true', decide_eq_false_iff_not])
    refine ⟨mul_r (by have := hi.sp; omega) (by have := hi.sp; omega), rfl, w_take hB1 (by have := hi.sp; omega) (by have := hi.sp; omega) fun v o2 hB2 vl vh => ?_⟩
    try (simp only [↓w_c, ↓w_e2, ↓we1', ↓p_v, ↓pr0, ↓pr1, ↓pr2, ↓pr3, ↓prA, ↓prB, ↓poL, ↓poD, ↓wB', ↓wt_N, ↓wt_An, ↓wt_Or, ↓wt_Ye, ↓w_Bo, ↓w_An, ↓w_Or, ↓w_If, ↓ws_If, ↓wa_Nil, ↓wa_Cons, ↓wTup', ↓wLst', ↓wLstM', ↓w_Dct, ↓w_DctM, ↓w_B, ↓w_Call, ↓wMt', ↓pl_nil, ↓pl_cons, ↓wc_P, ↓wc_M, ↓wSl', ↓wo_No, ↓woS', ↓wRlv, ↓wRlm, ↓ws_Nil, ↓ws_Cons, ↓then_nx, ↓then_rt, ↓ws_Asg, ↓wg_Nm, ↓wg_Tp, ↓wgs_Nil, ↓wgs_Cons, ↓wgSb', ↓ws_Par, ↓aug0, ↓aug1, ↓aug2, ↓aug3, ↓aug4, ↓aug5, ↓aug6, ↓aug7, ↓aug8, ↓aug9, ↓aug10, ↓aug11, ↓aug12, ↓aug13, ↓aug14, ↓aug15, ↓aug16, ↓aug17, ↓wAugS', ↓ws_Ret, ↓ws_RetT, ↓ws_Drop, ↓ws_For, ↓wSq', ↓wRg', ↓rg1, ↓rg2, ↓rg3, ↓rl1, ↓rl2, ↓rl3, ↓wEn', ↓enV, ↓wZp', ↓zpVV, ↓zpVB, ↓g_add, ↓g_addL, ↓g_addT, ↓g_iadd, ↓g_sub, ↓g_mul, ↓g_mulL, ↓g_fdiv, ↓g_mod, ↓g_pow, ↓g_lt, ↓g_le, ↓g_gt, ↓g_ge, ↓g_eqI, ↓g_neI, ↓g_is, ↓g_isnt, ↓g_ixT, ↓g_ixL, ↓g_ixD, ↓gl_abs, ↓gl_max, ↓gl_min, ↓gl_int, ↓gl_intB, ↓gl_gcd, ↓gl_lenL, ↓gl_lenT, ↓gl_tupL, ↓gl_tupT, ↓gl_lstL, ↓gl_lstT, ↓gl_rep, ↓gl_sortD, ↓gl_sortL, ↓ngI, ↓slL, ↓slT, ↓slS, ↓bo, ↓io, ↓av0, ↓av1, ↓itL, ↓itT, ↓it0, ↓it1, ↓it2, ↓itB, ↓rtB, ↓rt_v, ↓g_ninI, ↓g_inI, ↓w_Lc, ↓w_LcM, ↓turn_nx, wipeL_cons, wipeL_nil, ↓sw0, ↓sw1, ↓sw2, ↓gix2, ↓app0, ↓app1, ↓app2, ↓appB, ↓isL0, ↓isL1, ↓isL2, ↓isLB, ↓isLv, ↓at_head, ↓v0, ↓v1, ↓v2, ↓v3, ↓v4, ↓v5, ↓v6, ↓v7, ↓v8, ↓v9, ↓v10, ↓v11, ↓v12, ↓v13, ↓v14, ↓v15, ↓v16, ↓v17, ↓t0, ↓t1, ↓t2, ↓t3, ↓t4, ↓t5, ↓t6, ↓t7, ↓t8, ↓setAll0, ↓setAll1, List.set_cons_zero, List.set_cons_succ, decide_eq_true_eq, Bool.not_eq_true', decide_eq_false_iff_not])
    refine ⟨rfl, w_take hB2 (by decide) (by decide) fun u o3 hB3 u0 u1 => ?_⟩
    try (simp only [↓w_c, ↓w_e2, ↓we1', ↓p_v, ↓pr0, ↓pr1, ↓pr2, ↓pr3, ↓prA, ↓prB, ↓poL, ↓poD, ↓wB', ↓wt_N, ↓wt_An, ↓wt_Or, ↓wt_Ye, ↓w_Bo, ↓w_An, ↓w_Or, ↓w_If, ↓ws_If, ↓wa_Nil, ↓wa_Cons, ↓wTup', ↓wLst', ↓wLstM', ↓w_Dct, ↓w_DctM, ↓w_B, ↓w_Call, ↓wMt', ↓pl_nil, ↓pl_cons, ↓wc_P, ↓wc_M, ↓wSl', ↓wo_No, ↓woS', ↓wRlv, ↓wRlm, ↓ws_Nil, ↓ws_Cons, ↓then_nx, ↓then_rt, ↓ws_Asg, ↓wg_Nm, ↓wg_Tp, ↓wgs_Nil, ↓wgs_Cons, ↓wgSb', ↓ws_Par, ↓aug0, ↓aug1, ↓aug2, ↓aug3, ↓aug4, ↓aug5, ↓aug6, ↓aug7, ↓aug8, ↓aug9, ↓aug10, ↓aug11, ↓aug12, ↓aug13, ↓aug14, ↓aug15, ↓aug16, ↓aug17, ↓wAugS', ↓ws_Ret, ↓ws_RetT, ↓ws_Drop, ↓ws_For, ↓wSq', ↓wRg', ↓rg1, ↓rg2, ↓rg3, ↓rl1, ↓rl2, ↓rl3, ↓wEn', ↓enV, ↓wZp', ↓zpVV, ↓zpVB, ↓g_add, ↓g_addL, ↓g_addT, ↓g_iadd, ↓g_sub, ↓g_mul, ↓g_mulL, ↓g_fdiv, ↓g_mod, ↓g_pow, ↓g_lt, ↓g_le, ↓g_gt, ↓g_ge, ↓g_eqI, ↓g_neI, ↓g_is, ↓g_isnt, ↓g_ixT, ↓g_ixL, ↓g_ixD, ↓gl_abs, ↓gl_max, ↓gl_min, ↓gl_int, ↓gl_intB, ↓gl_gcd, ↓gl_lenL, ↓gl_lenT, ↓gl_tupL, ↓gl_tupT, ↓gl_lstL, ↓gl_lstT, ↓gl_rep, ↓gl_sortD, ↓gl_sortL, ↓ngI, ↓slL, ↓slT, ↓slS, ↓bo, ↓io, ↓av0, ↓av1, ↓itL, ↓itT, ↓it0, ↓it1, ↓it2, ↓itB, ↓rtB, ↓rt_v, ↓g_ninI, ↓g_inI, ↓w_Lc, ↓w_LcM, ↓turn_nx, wipeL_cons, wipeL_nil, ↓sw0, ↓sw1, ↓sw2, ↓gix2, ↓app0, ↓app1, ↓app2, ↓appB, ↓isL0, ↓isL1, ↓isL2, ↓isLB, ↓isLv, ↓at_head, ↓v0, ↓v1, ↓v2, ↓v3, ↓v4, ↓v5, ↓v6, ↓v7, ↓v8, ↓v9, ↓v10, ↓v11, ↓v12, ↓v13, ↓v14, ↓v15, ↓v16, ↓v17, ↓t0, ↓t1, ↓t2, ↓t3, ↓t4, ↓t5, ↓t6, ↓t7, ↓t8, ↓setAll0, ↓setAll1, List.set_cons_zero, List.set_cons_succ, decide_eq_true_eq, Bool.not_eq_true', decide_eq_false_iff_not])
    refine ⟨rfl, rfl, ⟨rfl, rfl⟩, ?_⟩
    have hsp := hi.sp
    have hd := hi.d
    have hhigh : 0 ≤ (b.d + 1) * b.sp + v ∧ (b.d + 1) * b.sp + v ≤ 200 := by
      have a1 := Int.mul_nonneg (show 0 ≤ b.d + 1 by omega) (show 0 ≤ b.sp by omega)
      have a2 : (b.d + 1) * b.sp ≤ 4 * 20 := Int.mul_le_mul (by omega) hsp.2 (by omega) (by decide)
      omega
    generalize (b.d + 1) * b.sp + v = high at hhigh
    have hwide : 0 ≤ b.sp + u ∧ b.sp + u ≤ 30 := by omega
    generalize b.sp + u = wide at hwide
    show W d__law_show_7 [some (.ref 0), some (.v (.int 3)), some (.v (.int 2)), some (.v b'.v), some (.v (.int b.sp)), some (.v (.int b.d)), y, some (.v (.int least)), some (.v (.int high)), some (.v (.int wide)), some (.ref 1), some (.ref 2), none, none, none, none, z] [o3, .lst [], .lst []] _
    unfold d__law_show_7
    try (simp only [↓w_c, ↓w_e2, ↓we1', ↓p_v, ↓pr0, ↓pr1, ↓pr2, ↓pr3, ↓prA, ↓prB, ↓poL, ↓poD, ↓wB', ↓wt_N, ↓wt_An, ↓wt_Or, ↓wt_Ye, ↓w_Bo, ↓w_An, ↓w_Or, ↓w_If, ↓ws_If, ↓wa_Nil, ↓wa_Cons, ↓wTup', ↓wLst', ↓wLstM', ↓w_Dct, ↓w_DctM, ↓w_B, ↓w_Call, ↓wMt', ↓pl_nil, ↓pl_cons, ↓wc_P, ↓wc_M, ↓wSl', ↓wo_No, ↓woS', ↓wRlv, ↓wRlm, ↓ws_Nil, ↓ws_Cons, ↓then_nx, ↓then_rt, ↓ws_Asg, ↓wg_Nm, ↓wg_Tp, ↓wgs_Nil, ↓wgs_Cons, ↓wgSb', ↓ws_Par, ↓aug0, ↓aug1, ↓aug2, ↓aug3, ↓aug4, ↓aug5, ↓aug6, ↓aug7, ↓aug8, ↓aug9, ↓aug10, ↓aug11, ↓aug12, ↓aug13, ↓aug14, ↓aug15, ↓aug16, ↓aug17, ↓wAugS', ↓ws_Ret, ↓ws_RetT, ↓ws_Drop, ↓ws_For, ↓wSq', ↓wRg', ↓rg1, ↓rg2, ↓rg3, ↓rl1, ↓rl2, ↓rl3, ↓wEn', ↓enV, ↓wZp', ↓zpVV, ↓zpVB, ↓g_add, ↓g_addL, ↓g_addT, ↓g_iadd, ↓g_sub, ↓g_mul, ↓g_mulL, ↓g_fdiv, ↓g_mod, ↓g_pow, ↓g_lt, ↓g_le, ↓g_gt, ↓g_ge, ↓g_eqI, ↓g_neI, ↓g_is, ↓g_isnt, ↓g_ixT, ↓g_ixL, ↓g_ixD, ↓gl_abs, ↓gl_max, ↓gl_min, ↓gl_int, ↓gl_intB, ↓gl_gcd, ↓gl_lenL, ↓gl_lenT, ↓gl_tupL, ↓gl_tupT, ↓gl_lstL, ↓gl_lstT, ↓gl_rep, ↓gl_sortD, ↓gl_sortL, ↓ngI, ↓slL, ↓slT, ↓slS, ↓bo, ↓io, ↓av0, ↓av1, ↓itL, ↓itT, ↓it0, ↓it1, ↓it2, ↓itB, ↓rtB, ↓rt_v, ↓g_ninI, ↓g_inI, ↓w_Lc, ↓w_LcM, ↓turn_nx, wipeL_cons, wipeL_nil, ↓sw0, ↓sw1, ↓sw2, ↓gix2, ↓app0, ↓app1, ↓app2, ↓appB, ↓isL0, ↓isL1, ↓isL2, ↓isLB, ↓isLv, ↓at_head, ↓v0, ↓v1, ↓v2, ↓v3, ↓v4, ↓v5, ↓v6, ↓v7, ↓v8, ↓v9, ↓v10, ↓v11, ↓v12, ↓v13, ↓v14, ↓v15, ↓v16, ↓v17, ↓t0, ↓t1, ↓t2, ↓t3, ↓t4, ↓t5, ↓t6, ↓t7, ↓t8, ↓setAll0, ↓setAll1, List.set_cons_zero, List.set_cons_succ, decide_eq_true_eq, Bool.not_eq_true', decide_eq_false_iff_not])
    refine ⟨rfl, w_take hB3 (by decide) (by decide) fun n o4 hB4 n0 n1 => ?_⟩
    try (simp only [↓w_c, ↓w_e2, ↓we1', ↓p_v, ↓pr0, ↓pr1, ↓pr2, ↓pr3, ↓prA, ↓prB, ↓poL, ↓poD, ↓wB', ↓wt_N, ↓wt_An, ↓wt_Or, ↓wt_Ye, ↓w_Bo, ↓w_An, ↓w_Or, ↓w_If, ↓ws_If, ↓wa_Nil, ↓wa_Cons, ↓wTup', ↓wLst', ↓wLstM', ↓w_Dct, ↓w_DctM, ↓w_B, ↓w_Call, ↓wMt', ↓pl_nil, ↓pl_cons, ↓wc_P, ↓wc_M, ↓wSl', ↓wo_No, ↓woS', ↓wRlv, ↓wRlm, ↓ws_Nil, ↓ws_Cons, ↓then_nx, ↓then_rt, ↓ws_Asg, ↓wg_Nm, ↓wg_Tp, ↓wgs_Nil, ↓wgs_Cons, ↓wgSb', ↓ws_Par, ↓aug0, ↓aug1, ↓aug2, ↓aug3, ↓aug4, ↓aug5, ↓aug6, ↓aug7, ↓aug8, ↓aug9, ↓aug10, ↓aug11, ↓aug12, ↓aug13, ↓aug14, ↓aug15, ↓aug16, ↓aug17, ↓wAugS', ↓ws_Ret, ↓ws_RetT, ↓ws_Drop, ↓ws_For, ↓wSq', ↓wRg', ↓rg1, ↓rg2, ↓rg3, ↓rl1, ↓rl2, ↓rl3, ↓wEn', ↓enV, ↓wZp', ↓zpVV, ↓zpVB, ↓g_add, ↓g_addL, ↓g_addT, ↓g_iadd, ↓g_sub, ↓g_mul, ↓g_mulL, ↓g_fdiv, ↓g_mod, ↓g_pow, ↓g_lt, ↓g_le, ↓g_gt, ↓g_ge, ↓g_eqI, ↓g_neI, ↓g_is, ↓g_isnt, ↓g_ixT, ↓g_ixL, ↓g_ixD, ↓gl_abs, ↓gl_max, ↓gl_min, ↓gl_int, ↓gl_intB, ↓gl_gcd, ↓gl_lenL, ↓gl_lenT, ↓gl_tupL, ↓gl_tupT, ↓gl_lstL, ↓gl_lstT, ↓gl_rep, ↓gl_sortD, ↓gl_sortL, ↓ngI, ↓slL, ↓slT, ↓slS, ↓bo, ↓io, ↓av0, ↓av1, ↓itL, ↓itT, ↓it0, ↓it1, ↓it2, ↓itB, ↓rtB, ↓rt_v, ↓g_ninI, ↓g_inI, ↓w_Lc, ↓w_LcM, ↓turn_nx, wipeL_cons, wipeL_nil, ↓sw0, ↓sw1, ↓sw2, ↓gix2, ↓app0, ↓app1, ↓app2, ↓appB, ↓isL0, ↓isL1, ↓isL2, ↓isLB, ↓isLv, ↓at_head, ↓v0, ↓v1, ↓v2, ↓v3, ↓v4, ↓v5, ↓v6, ↓v7, ↓v8, ↓v9, ↓v10, ↓v11, ↓v12, ↓v13, ↓v14, ↓v15, ↓v16, ↓v17, ↓t0, ↓t1, ↓t2, ↓t3, ↓t4, ↓t5, ↓t6, ↓t7, ↓t8, ↓setAll0, ↓setAll1, List.set_cons_zero, List.set_cons_succ, decide_eq_true_eq, Bool.not_eq_true', decide_eq_false_iff_not])
    refine ⟨big_of (by omega) (by omega), ?_⟩
    refine wf_inv (fun i r S' => ∃ (pads : List (Int × Int)) (o' : SO) (c : Option RV), pads.length = i ∧ (∀ p ∈ pads, (0 ≤ p.1 ∧ p.1 ≤ 1000) ∧ 0 ≤ p.2 ∧ p.2 ≤ 1000) ∧ BagO o' ∧ S' = [o', .lst (pads.map padV), .lst []] ∧
      r = [some (.ref 0), some (.v (.int 3)), some (.v (.int 2)), some (.v b'.v), some (.v (.int b.sp)), some (.v (.int b.d)), y, some (.v (.int least)), some (.v (.int high)), some (.v (.int wide)), some (.ref 1), some (.ref 2), c, none, none, none, z]) ⟨[], o4, none, rfl, by simp, hB4, rfl, rfl⟩ ?_ ?_
    · rintro i x r S' hx ⟨pads, o', c, hpi, hpo, hB', rfl, rfl⟩
      obtain ⟨hlt, rfl⟩ := rngV_get hx
      refine ⟨ok_nil _, ?_⟩
      unfold b__law_show_1
      try (simp only [↓w_c, ↓w_e2, ↓we1', ↓p_v, ↓pr0, ↓pr1, ↓pr2, ↓pr3, ↓prA, ↓prB, ↓poL, ↓poD, ↓wB', ↓wt_N, ↓wt_An, ↓wt_Or, ↓wt_Ye, ↓w_Bo, ↓w_An, ↓w_Or, ↓w_If, ↓ws_If, ↓wa_Nil, ↓wa_Cons, ↓wTup', ↓wLst', ↓wLstM', ↓w_Dct, ↓w_DctM, ↓w_B, ↓w_Call, ↓wMt', ↓pl_nil, ↓pl_cons, ↓wc_P, ↓wc_M, ↓wSl', ↓wo_No, ↓woS', ↓wRlv, ↓wRlm, ↓ws_Nil, ↓ws_Cons, ↓then_nx, ↓then_rt, ↓ws_Asg, ↓wg_Nm, ↓wg_Tp, ↓wgs_Nil, ↓wgs_Cons, ↓wgSb', ↓ws_Par, ↓aug0, ↓aug1, ↓aug2, ↓aug3, ↓aug4, ↓aug5, ↓aug6, ↓aug7, ↓aug8, ↓aug9, ↓aug10, ↓aug11, ↓aug12, ↓aug13, ↓aug14, ↓aug15, ↓aug16, ↓aug17, ↓wAugS', ↓ws_Ret, ↓ws_RetT, ↓ws_Drop, ↓ws_For, ↓wSq', ↓wRg', ↓rg1, ↓rg2, ↓rg3, ↓rl1, ↓rl2, ↓rl3, ↓wEn', ↓enV, ↓wZp', ↓zpVV, ↓zpVB, ↓g_add, ↓g_addL, ↓g_addT, ↓g_iadd, ↓g_sub, ↓g_mul, ↓g_mulL, ↓g_fdiv, ↓g_mod, ↓g_pow, ↓g_lt, ↓g_le, ↓g_gt, ↓g_ge, ↓g_eqI, ↓g_neI, ↓g_is, ↓g_isnt, ↓g_ixT, ↓g_ixL, ↓g_ixD, ↓gl_abs, ↓gl_max, ↓gl_min, ↓gl_int, ↓gl_intB, ↓gl_gcd, ↓gl_lenL, ↓gl_lenT, ↓gl_tupL, ↓gl_tupT, ↓gl_lstL, ↓gl_lstT, ↓gl_rep, ↓gl_sortD, ↓gl_sortL, ↓ngI, ↓slL, ↓slT, ↓slS, ↓bo, ↓io, ↓av0, ↓av1, ↓itL, ↓itT, ↓it0, ↓it1, ↓it2, ↓itB, ↓rtB, ↓rt_v, ↓g_ninI, ↓g_inI, ↓w_Lc, ↓w_LcM, ↓turn_nx, wipeL_cons, wipeL_nil, ↓sw0, ↓sw1, ↓sw2, ↓gix2, ↓app0, ↓app1, ↓app2, ↓appB, ↓isL0, ↓isL1, ↓isL2, ↓isLB, ↓isLv, ↓at_head, ↓v0, ↓v1, ↓v2, ↓v3, ↓v4, ↓v5, ↓v6, ↓v7, ↓v8, ↓v9, ↓v10, ↓v11, ↓v12, ↓v13, ↓v14, ↓v15, ↓v16, ↓v17, ↓t0, ↓t1, ↓t2, ↓t3, ↓t4, ↓t5, ↓t6, ↓t7, ↓t8, ↓setAll0, ↓setAll1, List.set_cons_zero, List.set_cons_succ, decide_eq_true_eq, Bool.not_eq_true', decide_eq_false_iff_not])
      refine ⟨trivial, mul_r (by omega) (by omega), rfl, w_take hB' (by decide) (by decide) fun q o5 hB5 q0 q1 => ?_⟩
      try (simp only [↓w_c, ↓w_e2, ↓we1', ↓p_v, ↓pr0, ↓pr1, ↓pr2, ↓pr3, ↓prA, ↓prB, ↓poL, ↓poD, ↓wB', ↓wt_N, ↓wt_An, ↓wt_Or, ↓wt_Ye, ↓w_Bo, ↓w_An, ↓w_Or, ↓w_If, ↓ws_If, ↓wa_Nil, ↓wa_Cons, ↓wTup', ↓wLst', ↓wLstM', ↓w_Dct, ↓w_DctM, ↓w_B, ↓w_Call, ↓wMt', ↓pl_nil, ↓pl_cons, ↓wc_P, ↓wc_M, ↓wSl', ↓wo_No, ↓woS', ↓wRlv, ↓wRlm, ↓ws_Nil, ↓ws_Cons, ↓then_nx, ↓then_rt, ↓ws_Asg, ↓wg_Nm, ↓wg_Tp, ↓wgs_Nil, ↓wgs_Cons, ↓wgSb', ↓ws_Par, ↓aug0, ↓aug1, ↓aug2, ↓aug3, ↓aug4, ↓aug5, ↓aug6, ↓aug7, ↓aug8, ↓aug9, ↓aug10, ↓aug11, ↓aug12, ↓aug13, ↓aug14, ↓aug15, ↓aug16, ↓aug17, ↓wAugS', ↓ws_Ret, ↓ws_RetT, ↓ws_Drop, ↓ws_For, ↓wSq', ↓wRg', ↓rg1, ↓rg2, ↓rg3, ↓rl1, ↓rl2, ↓rl3, ↓wEn', ↓enV, ↓wZp', ↓zpVV, ↓zpVB, ↓g_add, ↓g_addL, ↓g_addT, ↓g_iadd, ↓g_sub, ↓g_mul, ↓g_mulL, ↓g_fdiv, ↓g_mod, ↓g_pow, ↓g_lt, ↓g_le, ↓g_gt, ↓g_ge, ↓g_eqI, ↓g_neI, ↓g_is, ↓g_isnt, ↓g_ixT, ↓g_ixL, ↓g_ixD, ↓gl_abs, ↓gl_max, ↓gl_min, ↓gl_int, ↓gl_intB, ↓gl_gcd, ↓gl_lenL, ↓gl_lenT, ↓gl_tupL, ↓gl_tupT, ↓gl_lstL, ↓gl_lstT, ↓gl_rep, ↓gl_sortD, ↓gl_sortL, ↓ngI, ↓slL, ↓slT, ↓slS, ↓bo, ↓io, ↓av0, ↓av1, ↓itL, ↓itT, ↓it0, ↓it1, ↓it2, ↓itB, ↓rtB, ↓rt_v, ↓g_ninI, ↓g_inI, ↓w_Lc, ↓w_LcM, ↓turn_nx, wipeL_cons, wipeL_nil, ↓sw0, ↓sw1, ↓sw2, ↓gix2, ↓app0, ↓app1, ↓app2, ↓appB, ↓isL0, ↓isL1, ↓isL2, ↓isLB, ↓isLv, ↓at_head, ↓v0, ↓v1, ↓v2, ↓v3, ↓v4, ↓v5, ↓v6, ↓v7, ↓v8, ↓v9, ↓v10, ↓v11, ↓v12, ↓v13, ↓v14, ↓v15, ↓v16, ↓v17, ↓t0, ↓t1, ↓t2, ↓t3, ↓t4, ↓t5, ↓t6, ↓t7, ↓t8, ↓setAll0, ↓setAll1, List.set_cons_zero, List.set_cons_succ, decide_eq_true_eq, Bool.not_eq_true', decide_eq_false_iff_not])
      refine ⟨mul_l (by omega) (by omega), rfl, by rw [List.length_map]; omega, pads ++ [((0 + (i : Int)) * wide, high + b.sp * q)], o5, _, by simp [hpi], ?_, hB5, by simp [padV], rfl⟩
      intro p hp
      rcases List.mem_append.mp hp with hp | hp
      · exact hpo p hp
      · have e : p = ((0 + (i : Int)) * wide, high + b.sp * q) := by simpa using hp
        subst e
        have hi3 : (i : Int) ≤ 3 := by omega
        have a1 := Int.mul_nonneg (show (0 : Int) ≤ 0 + (i : Int) by omega) hwide.1
        have a2 : (0 + (i : Int)) * wide ≤ 3 * 30 := Int.mul_le_mul (by omega) hwide.2 hwide.1 (by decide)
        have a3 := Int.mul_nonneg (show 0 ≤ b.sp by omega) q0
        have a4 : b.sp * q ≤ 20 * 1 := Int.mul_le_mul hsp.2 (by omega) q0 (by decide)
        refine ⟨⟨a1, by show (0 + (i : Int)) * wide ≤ 1000; omega⟩, by show 0 ≤ high + b.sp * q; omega, by show high + b.sp * q ≤ 1000; omega⟩
    · rintro r S' ⟨pads, o', c, hpi, hpo, hB', rfl, rfl⟩
      rw [rngV_length] at hpi
      refine ⟨ok_nil _, ?_⟩
      unfold d__law_show_8
      try (simp only [↓w_c, ↓w_e2, ↓we1', ↓p_v, ↓pr0, ↓pr1, ↓pr2, ↓pr3, ↓prA, ↓prB, ↓poL, ↓poD, ↓wB', ↓wt_N, ↓wt_An, ↓wt_Or, ↓wt_Ye, ↓w_Bo, ↓w_An, ↓w_Or, ↓w_If, ↓ws_If, ↓wa_Nil, ↓wa_Cons, ↓wTup', ↓wLst', ↓wLstM', ↓w_Dct, ↓w_DctM, ↓w_B, ↓w_Call, ↓wMt', ↓pl_nil, ↓pl_cons, ↓wc_P, ↓wc_M, ↓wSl', ↓wo_No, ↓woS', ↓wRlv, ↓wRlm, ↓ws_Nil, ↓ws_Cons, ↓then_nx, ↓then_rt, ↓ws_Asg, ↓wg_Nm, ↓wg_Tp, ↓wgs_Nil, ↓wgs_Cons, ↓wgSb', ↓ws_Par, ↓aug0, ↓aug1, ↓aug2, ↓aug3, ↓aug4, ↓aug5, ↓aug6, ↓aug7, ↓aug8, ↓aug9, ↓aug10, ↓aug11, ↓aug12, ↓aug13, ↓aug14, ↓aug15, ↓aug16, ↓aug17, ↓wAugS', ↓ws_Ret, ↓ws_RetT, ↓ws_Drop, ↓ws_For, ↓wSq', ↓wRg', ↓rg1, ↓rg2, ↓rg3, ↓rl1, ↓rl2, ↓rl3, ↓wEn', ↓enV, ↓wZp', ↓zpVV, ↓zpVB, ↓g_add, ↓g_addL, ↓g_addT, ↓g_iadd, ↓g_sub, ↓g_mul, ↓g_mulL, ↓g_fdiv, ↓g_mod, ↓g_pow, ↓g_lt, ↓g_le, ↓g_gt, ↓g_ge, ↓g_eqI, ↓g_neI, ↓g_is, ↓g_isnt, ↓g_ixT, ↓g_ixL, ↓g_ixD, ↓gl_abs, ↓gl_max, ↓gl_min, ↓gl_int, ↓gl_intB, ↓gl_gcd, ↓gl_lenL, ↓gl_lenT, ↓gl_tupL, ↓gl_tupT, ↓gl_lstL, ↓gl_lstT, ↓gl_rep, ↓gl_sortD, ↓gl_sortL, ↓ngI, ↓slL, ↓slT, ↓slS, ↓bo, ↓io, ↓av0, ↓av1, ↓itL, ↓itT, ↓it0, ↓it1, ↓it2, ↓itB, ↓rtB, ↓rt_v, ↓g_ninI, ↓g_inI, ↓w_Lc, ↓w_LcM, ↓turn_nx, wipeL_cons, wipeL_nil, ↓sw0, ↓sw1, ↓sw2, ↓gix2, ↓app0, ↓app1, ↓app2, ↓appB, ↓isL0, ↓isL1, ↓isL2, ↓isLB, ↓isLv, ↓at_head, ↓v0, ↓v1, ↓v2, ↓v3, ↓v4, ↓v5, ↓v6, ↓v7, ↓v8, ↓v9, ↓v10, ↓v11, ↓v12, ↓v13, ↓v14, ↓v15, ↓v16, ↓v17, ↓t0, ↓t1, ↓t2, ↓t3, ↓t4, ↓t5, ↓t6, ↓t7, ↓t8, ↓setAll0, ↓setAll1, List.set_cons_zero, List.set_cons_succ, decide_eq_true_eq, Bool.not_eq_true', decide_eq_false_iff_not])
      refine ⟨rfl, w_take hB' (by decide) (by decide) fun m o5 hB5 m0 m1 => ?_⟩
      try (simp only [↓w_c, ↓w_e2, ↓we1', ↓p_v, ↓pr0, ↓pr1, ↓pr2, ↓pr3, ↓prA, ↓prB, ↓poL, ↓poD, ↓wB', ↓wt_N, ↓wt_An, ↓wt_Or, ↓wt_Ye, ↓w_Bo, ↓w_An, ↓w_Or, ↓w_If, ↓ws_If, ↓wa_Nil, ↓wa_Cons, ↓wTup', ↓wLst', ↓wLstM', ↓w_Dct, ↓w_DctM, ↓w_B, ↓w_Call, ↓wMt', ↓pl_nil, ↓pl_cons, ↓wc_P, ↓wc_M, ↓wSl', ↓wo_No, ↓woS', ↓wRlv, ↓wRlm, ↓ws_Nil, ↓ws_Cons, ↓then_nx, ↓then_rt, ↓ws_Asg, ↓wg_Nm, ↓wg_Tp, ↓wgs_Nil, ↓wgs_Cons, ↓wgSb', ↓ws_Par, ↓aug0, ↓aug1, ↓aug2, ↓aug3, ↓aug4, ↓aug5, ↓aug6, ↓aug7, ↓aug8, ↓aug9, ↓aug10, ↓aug11, ↓aug12, ↓aug13, ↓aug14, ↓aug15, ↓aug16, ↓aug17, ↓wAugS', ↓ws_Ret, ↓ws_RetT, ↓ws_Drop, ↓ws_For, ↓wSq', ↓wRg', ↓rg1, ↓rg2, ↓rg3, ↓rl1, ↓rl2, ↓rl3, ↓wEn', ↓enV, ↓wZp', ↓zpVV, ↓zpVB, ↓g_add, ↓g_addL, ↓g_addT, ↓g_iadd, ↓g_sub, ↓g_mul, ↓g_mulL, ↓g_fdiv, ↓g_mod, ↓g_pow, ↓g_lt, ↓g_le, ↓g_gt, ↓g_ge, ↓g_eqI, ↓g_neI, ↓g_is, ↓g_isnt, ↓g_ixT, ↓g_ixL, ↓g_ixD, ↓gl_abs, ↓gl_max, ↓gl_min, ↓gl_int, ↓gl_intB, ↓gl_gcd, ↓gl_lenL, ↓gl_lenT, ↓gl_tupL, ↓gl_tupT, ↓gl_lstL, ↓gl_lstT, ↓gl_rep, ↓gl_sortD, ↓gl_sortL, ↓ngI, ↓slL, ↓slT, ↓slS, ↓bo, ↓io, ↓av0, ↓av1, ↓itL, ↓itT, ↓it0, ↓it1, ↓it2, ↓itB, ↓rtB, ↓rt_v, ↓g_ninI, ↓g_inI, ↓w_Lc, ↓w_LcM, ↓turn_nx, wipeL_cons, wipeL_nil, ↓sw0, ↓sw1, ↓sw2, ↓gix2, ↓app0, ↓app1, ↓app2, ↓appB, ↓isL0, ↓isL1, ↓isL2, ↓isLB, ↓isLv, ↓at_head, ↓v0, ↓v1, ↓v2, ↓v3, ↓v4, ↓v5, ↓v6, ↓v7, ↓v8, ↓v9, ↓v10, ↓v11, ↓v12, ↓v13, ↓v14, ↓v15, ↓v16, ↓v17, ↓t0, ↓t1, ↓t2, ↓t3, ↓t4, ↓t5, ↓t6, ↓t7, ↓t8, ↓setAll0, ↓setAll1, List.set_cons_zero, List.set_cons_succ, decide_eq_true_eq, Bool.not_eq_true', decide_eq_false_iff_not])
      refine ⟨big_of (by omega) (by omega), ?_⟩
      refine wf_inv (fun i r S' => ∃ (sc : List Scene) (o' : SO) (d e f : Option RV), sc.length = i ∧ (∀ q ∈ sc, q.Ok) ∧ BagO o' ∧ S' = [o', .lst (pads.map padV), .lst (sc.map Scene.v)] ∧
        r = [some (.ref 0), some (.v (.int 3)), some (.v (.int 2)), some (.v b'.v), some (.v (.int b.sp)), some (.v (.int b.d)), y, some (.v (.int least)), some (.v (.int high)), some (.v (.int wide)), some (.ref 1), some (.ref 2), c, d, e, f, z]) ⟨[], o5, none, none, none, rfl, by simp, hB5, rfl, rfl⟩ ?_ ?_
      · rintro i x r S' hx ⟨sc, o', d, e, f, hsi, hso, hB', rfl, rfl⟩
        obtain ⟨hlt, rfl⟩ := rngV_get hx
        refine ⟨ok_nil _, ?_⟩
        unfold b__law_show_2 b__law_show_2_1 b__law_show_2_2
        try (simp only [↓w_c, ↓w_e2, ↓we1', ↓p_v, ↓pr0, ↓pr1, ↓pr2, ↓pr3, ↓prA, ↓prB, ↓poL, ↓poD, ↓wB', ↓wt_N, ↓wt_An, ↓wt_Or, ↓wt_Ye, ↓w_Bo, ↓w_An, ↓w_Or, ↓w_If, ↓ws_If, ↓wa_Nil, ↓wa_Cons, ↓wTup', ↓wLst', ↓wLstM', ↓w_Dct, ↓w_DctM, ↓w_B, ↓w_Call, ↓wMt', ↓pl_nil, ↓pl_cons, ↓wc_P, ↓wc_M, ↓wSl', ↓wo_No, ↓woS', ↓wRlv, ↓wRlm, ↓ws_Nil, ↓ws_Cons, ↓then_nx, ↓then_rt, ↓ws_Asg, ↓wg_Nm, ↓wg_Tp, ↓wgs_Nil, ↓wgs_Cons, ↓wgSb', ↓ws_Par, ↓aug0, ↓aug1, ↓aug2, ↓aug3, ↓aug4, ↓aug5, ↓aug6, ↓aug7, ↓aug8, ↓aug9, ↓aug10, ↓aug11, ↓aug12, ↓aug13, ↓aug14, ↓aug15, ↓aug16, ↓aug17, ↓wAugS', ↓ws_Ret, ↓ws_RetT, ↓ws_Drop, ↓ws_For, ↓wSq', ↓wRg', ↓rg1, ↓rg2, ↓rg3, ↓rl1, ↓rl2, ↓rl3, ↓wEn', ↓enV, ↓wZp', ↓zpVV, ↓zpVB, ↓g_add, ↓g_addL, ↓g_addT, ↓g_iadd, ↓g_sub, ↓g_mul, ↓g_mulL, ↓g_fdiv, ↓g_mod, ↓g_pow, ↓g_lt, ↓g_le, ↓g_gt, ↓g_ge, ↓g_eqI, ↓g_neI, ↓g_is, ↓g_isnt, ↓g_ixT, ↓g_ixL, ↓g_ixD, ↓gl_abs, ↓gl_max, ↓gl_min, ↓gl_int, ↓gl_intB, ↓gl_gcd, ↓gl_lenL, ↓gl_lenT, ↓gl_tupL, ↓gl_tupT, ↓gl_lstL, ↓gl_lstT, ↓gl_rep, ↓gl_sortD, ↓gl_sortL, ↓ngI, ↓slL, ↓slT, ↓slS, ↓bo, ↓io, ↓av0, ↓av1, ↓itL, ↓itT, ↓it0, ↓it1, ↓it2, ↓itB, ↓rtB, ↓rt_v, ↓g_ninI, ↓g_inI, ↓w_Lc, ↓w_LcM, ↓turn_nx, wipeL_cons, wipeL_nil, ↓sw0, ↓sw1, ↓sw2, ↓gix2, ↓app0, ↓app1, ↓app2, ↓appB, ↓isL0, ↓isL1, ↓isL2, ↓isLB, ↓isLv, ↓at_head, ↓v0, ↓v1, ↓v2, ↓v3, ↓v4, ↓v5, ↓v6, ↓v7, ↓v8, ↓v9, ↓v10, ↓v11, ↓v12, ↓v13, ↓v14, ↓v15, ↓v16, ↓v17, ↓t0, ↓t1, ↓t2, ↓t3, ↓t4, ↓t5, ↓t6, ↓t7, ↓t8, ↓setAll0, ↓setAll1, List.set_cons_zero, List.set_cons_succ, decide_eq_true_eq, Bool.not_eq_true', decide_eq_false_iff_not])
        refine ⟨rfl, w_needed ?_⟩
        try (simp only [↓w_c, ↓w_e2, ↓we1', ↓p_v, ↓pr0, ↓pr1, ↓pr2, ↓pr3, ↓prA, ↓prB, ↓poL, ↓poD, ↓wB', ↓wt_N, ↓wt_An, ↓wt_Or, ↓wt_Ye, ↓w_Bo, ↓w_An, ↓w_Or, ↓w_If, ↓ws_If, ↓wa_Nil, ↓wa_Cons, ↓wTup', ↓wLst', ↓wLstM', ↓w_Dct, ↓w_DctM, ↓w_B, ↓w_Call, ↓wMt', ↓pl_nil, ↓pl_cons, ↓wc_P, ↓wc_M, ↓wSl', ↓wo_No, ↓woS', ↓wRlv, ↓wRlm, ↓ws_Nil, ↓ws_Cons, ↓then_nx, ↓then_rt, ↓ws_Asg, ↓wg_Nm, ↓wg_Tp, ↓wgs_Nil, ↓wgs_Cons, ↓wgSb', ↓ws_Par, ↓aug0, ↓aug1, ↓aug2, ↓aug3, ↓aug4, ↓aug5, ↓aug6, ↓aug7, ↓aug8, ↓aug9, ↓aug10, ↓aug11, ↓aug12, ↓aug13, ↓aug14, ↓aug15, ↓aug16, ↓aug17, ↓wAugS', ↓ws_Ret, ↓ws_RetT, ↓ws_Drop, ↓ws_For, ↓wSq', ↓wRg', ↓rg1, ↓rg2, ↓rg3, ↓rl1, ↓rl2, ↓rl3, ↓wEn', ↓enV, ↓wZp', ↓zpVV, ↓zpVB, ↓g_add, ↓g_addL, ↓g_addT, ↓g_iadd, ↓g_sub, ↓g_mul, ↓g_mulL, ↓g_fdiv, ↓g_mod, ↓g_pow, ↓g_lt, ↓g_le, ↓g_gt, ↓g_ge, ↓g_eqI, ↓g_neI, ↓g_is, ↓g_isnt, ↓g_ixT, ↓g_ixL, ↓g_ixD, ↓gl_abs, ↓gl_max, ↓gl_min, ↓gl_int, ↓gl_intB, ↓gl_gcd, ↓gl_lenL, ↓gl_lenT, ↓gl_tupL, ↓gl_tupT, ↓gl_lstL, ↓gl_lstT, ↓gl_rep, ↓gl_sortD, ↓gl_sortL, ↓ngI, ↓slL, ↓slT, ↓slS, ↓bo, ↓io, ↓av0, ↓av1, ↓itL, ↓itT, ↓it0, ↓it1, ↓it2, ↓itB, ↓rtB, ↓rt_v, ↓g_ninI, ↓g_inI, ↓w_Lc, ↓w_LcM, ↓turn_nx, wipeL_cons, wipeL_nil, ↓sw0, ↓sw1, ↓sw2, ↓gix2, ↓app0, ↓app1, ↓app2, ↓appB, ↓isL0, ↓isL1, ↓isL2, ↓isLB, ↓isLv, ↓at_head, ↓v0, ↓v1, ↓v2, ↓v3, ↓v4, ↓v5, ↓v6, ↓v7, ↓v8, ↓v9, ↓v10, ↓v11, ↓v12, ↓v13, ↓v14, ↓v15, ↓v16, ↓v17, ↓t0, ↓t1, ↓t2, ↓t3, ↓t4, ↓t5, ↓t6, ↓t7, ↓t8, ↓setAll0, ↓setAll1, List.set_cons_zero, List.set_cons_succ, decide_eq_true_eq, Bool.not_eq_true', decide_eq_false_iff_not])
        refine ⟨rfl, rfl, w_someI [0, 3, 1] hB' (by decide) (by decide) fun ho o6 hho hB6 => ?_⟩
        try (simp only [↓w_c, ↓w_e2, ↓we1', ↓p_v, ↓pr0, ↓pr1, ↓pr2, ↓pr3, ↓prA, ↓prB, ↓poL, ↓poD, ↓wB', ↓wt_N, ↓wt_An, ↓wt_Or, ↓wt_Ye, ↓w_Bo, ↓w_An, ↓w_Or, ↓w_If, ↓ws_If, ↓wa_Nil, ↓wa_Cons, ↓wTup', ↓wLst', ↓wLstM', ↓w_Dct, ↓w_DctM, ↓w_B, ↓w_Call, ↓wMt', ↓pl_nil, ↓pl_cons, ↓wc_P, ↓wc_M, ↓wSl', ↓wo_No, ↓woS', ↓wRlv, ↓wRlm, ↓ws_Nil, ↓ws_Cons, ↓then_nx, ↓then_rt, ↓ws_Asg, ↓wg_Nm, ↓wg_Tp, ↓wgs_Nil, ↓wgs_Cons, ↓wgSb', ↓ws_Par, ↓aug0, ↓aug1, ↓aug2, ↓aug3, ↓aug4, ↓aug5, ↓aug6, ↓aug7, ↓aug8, ↓aug9, ↓aug10, ↓aug11, ↓aug12, ↓aug13, ↓aug14, ↓aug15, ↓aug16, ↓aug17, ↓wAugS', ↓ws_Ret, ↓ws_RetT, ↓ws_Drop, ↓ws_For, ↓wSq', ↓wRg', ↓rg1, ↓rg2, ↓rg3, ↓rl1, ↓rl2, ↓rl3, ↓wEn', ↓enV, ↓wZp', ↓zpVV, ↓zpVB, ↓g_add, ↓g_addL, ↓g_addT, ↓g_iadd, ↓g_sub, ↓g_mul, ↓g_mulL, ↓g_fdiv, ↓g_mod, ↓g_pow, ↓g_lt, ↓g_le, ↓g_gt, ↓g_ge, ↓g_eqI, ↓g_neI, ↓g_is, ↓g_isnt, ↓g_ixT, ↓g_ixL, ↓g_ixD, ↓gl_abs, ↓gl_max, ↓gl_min, ↓gl_int, ↓gl_intB, ↓gl_gcd, ↓gl_lenL, ↓gl_lenT, ↓gl_tupL, ↓gl_tupT, ↓gl_lstL, ↓gl_lstT, ↓gl_rep, ↓gl_sortD, ↓gl_sortL, ↓ngI, ↓slL, ↓slT, ↓slS, ↓bo, ↓io, ↓av0, ↓av1, ↓itL, ↓itT, ↓it0, ↓it1, ↓it2, ↓itB, ↓rtB, ↓rt_v, ↓g_ninI, ↓g_inI, ↓w_Lc, ↓w_LcM, ↓turn_nx, wipeL_cons, wipeL_nil, ↓sw0, ↓sw1, ↓sw2, ↓gix2, ↓app0, ↓app1, ↓app2, ↓appB, ↓isL0, ↓isL1, ↓isL2, ↓isLB, ↓isLv, ↓at_head, ↓v0, ↓v1, ↓v2, ↓v3, ↓v4, ↓v5, ↓v6, ↓v7, ↓v8, ↓v9, ↓v10, ↓v11, ↓v12, ↓v13, ↓v14, ↓v15, ↓v16, ↓v17, ↓t0, ↓t1, ↓t2, ↓t3, ↓t4, ↓t5, ↓t6, ↓t7, ↓t8, ↓setAll0, ↓setAll1, List.set_cons_zero, List.set_cons_succ, decide_eq_true_eq, Bool.not_eq_true', decide_eq_false_iff_not])
        refine ⟨rfl, rfl, w_someI [4, 2, 6] hB6 (by decide) (by decide) fun mo o7 hmo hB7 => ?_⟩
        simp only [List.mem_cons, List.not_mem_nil, or_false] at hho hmo
        try (simp only [↓w_c, ↓w_e2, ↓we1', ↓p_v, ↓pr0, ↓pr1, ↓pr2, ↓pr3, ↓prA, ↓prB, ↓poL, ↓poD, ↓wB', ↓wt_N, ↓wt_An, ↓wt_Or, ↓wt_Ye, ↓w_Bo, ↓w_An, ↓w_Or, ↓w_If, ↓ws_If, ↓wa_Nil, ↓wa_Cons, ↓wTup', ↓wLst', ↓wLstM', ↓w_Dct, ↓w_DctM, ↓w_B, ↓w_Call, ↓wMt', ↓pl_nil, ↓pl_cons, ↓wc_P, ↓wc_M, ↓wSl', ↓wo_No, ↓woS', ↓wRlv, ↓wRlm, ↓ws_Nil, ↓ws_Cons, ↓then_nx, ↓then_rt, ↓ws_Asg, ↓wg_Nm, ↓wg_Tp, ↓wgs_Nil, ↓wgs_Cons, ↓wgSb', ↓ws_Par, ↓aug0, ↓aug1, ↓aug2, ↓aug3, ↓aug4, ↓aug5, ↓aug6, ↓aug7, ↓aug8, ↓aug9, ↓aug10, ↓aug11, ↓aug12, ↓aug13, ↓aug14, ↓aug15, ↓aug16, ↓aug17, ↓wAugS', ↓ws_Ret, ↓ws_RetT, ↓ws_Drop, ↓ws_For, ↓wSq', ↓wRg', ↓rg1, ↓rg2, ↓rg3, ↓rl1, ↓rl2, ↓rl3, ↓wEn', ↓enV, ↓wZp', ↓zpVV, ↓zpVB, ↓g_add, ↓g_addL, ↓g_addT, ↓g_iadd, ↓g_sub, ↓g_mul, ↓g_mulL, ↓g_fdiv, ↓g_mod, ↓g_pow, ↓g_lt, ↓g_le, ↓g_gt, ↓g_ge, ↓g_eqI, ↓g_neI, ↓g_is, ↓g_isnt, ↓g_ixT, ↓g_ixL, ↓g_ixD, ↓gl_abs, ↓gl_max, ↓gl_min, ↓gl_int, ↓gl_intB, ↓gl_gcd, ↓gl_lenL, ↓gl_lenT, ↓gl_tupL, ↓gl_tupT, ↓gl_lstL, ↓gl_lstT, ↓gl_rep, ↓gl_sortD, ↓gl_sortL, ↓ngI, ↓slL, ↓slT, ↓slS, ↓bo, ↓io, ↓av0, ↓av1, ↓itL, ↓itT, ↓it0, ↓it1, ↓it2, ↓itB, ↓rtB, ↓rt_v, ↓g_ninI, ↓g_inI, ↓w_Lc, ↓w_LcM, ↓turn_nx, wipeL_cons, wipeL_nil, ↓sw0, ↓sw1, ↓sw2, ↓gix2, ↓app0, ↓app1, ↓app2, ↓appB, ↓isL0, ↓isL1, ↓isL2, ↓isLB, ↓isLv, ↓at_head, ↓v0, ↓v1, ↓v2, ↓v3, ↓v4, ↓v5, ↓v6, ↓v7, ↓v8, ↓v9, ↓v10, ↓v11, ↓v12, ↓v13, ↓v14, ↓v15, ↓v16, ↓v17, ↓t0, ↓t1, ↓t2, ↓t3, ↓t4, ↓t5, ↓t6, ↓t7, ↓t8, ↓setAll0, ↓setAll1, List.set_cons_zero, List.set_cons_succ, decide_eq_true_eq, Bool.not_eq_true', decide_eq_false_iff_not])
        refine ⟨rfl, w_picture hB7 hsp (by omega) fun ls o8 hlo hll hB8 => ?_⟩
        try (simp only [↓w_c, ↓w_e2, ↓we1', ↓p_v, ↓pr0, ↓pr1, ↓pr2, ↓pr3, ↓prA, ↓prB, ↓poL, ↓poD, ↓wB', ↓wt_N, ↓wt_An, ↓wt_Or, ↓wt_Ye, ↓w_Bo, ↓w_An, ↓w_Or, ↓w_If, ↓ws_If, ↓wa_Nil, ↓wa_Cons, ↓wTup', ↓wLst', ↓wLstM', ↓w_Dct, ↓w_DctM, ↓w_B, ↓w_Call, ↓wMt', ↓pl_nil, ↓pl_cons, ↓wc_P, ↓wc_M, ↓wSl', ↓wo_No, ↓woS', ↓wRlv, ↓wRlm, ↓ws_Nil, ↓ws_Cons, ↓then_nx, ↓then_rt, ↓ws_Asg, ↓wg_Nm, ↓wg_Tp, ↓wgs_Nil, ↓wgs_Cons, ↓wgSb', ↓ws_Par, ↓aug0, ↓aug1, ↓aug2, ↓aug3, ↓aug4, ↓aug5, ↓aug6, ↓aug7, ↓aug8, ↓aug9, ↓aug10, ↓aug11, ↓aug12, ↓aug13, ↓aug14, ↓aug15, ↓aug16, ↓aug17, ↓wAugS', ↓ws_Ret, ↓ws_RetT, ↓ws_Drop, ↓ws_For, ↓wSq', ↓wRg', ↓rg1, ↓rg2, ↓rg3, ↓rl1, ↓rl2, ↓rl3, ↓wEn', ↓enV, ↓wZp', ↓zpVV, ↓zpVB, ↓g_add, ↓g_addL, ↓g_addT, ↓g_iadd, ↓g_sub, ↓g_mul, ↓g_mulL, ↓g_fdiv, ↓g_mod, ↓g_pow, ↓g_lt, ↓g_le, ↓g_gt, ↓g_ge, ↓g_eqI, ↓g_neI, ↓g_is, ↓g_isnt, ↓g_ixT, ↓g_ixL, ↓g_ixD, ↓gl_abs, ↓gl_max, ↓gl_min, ↓gl_int, ↓gl_intB, ↓gl_gcd, ↓gl_lenL, ↓gl_lenT, ↓gl_tupL, ↓gl_tupT, ↓gl_lstL, ↓gl_lstT, ↓gl_rep, ↓gl_sortD, ↓gl_sortL, ↓ngI, ↓slL, ↓slT, ↓slS, ↓bo, ↓io, ↓av0, ↓av1, ↓itL, ↓itT, ↓it0, ↓it1, ↓it2, ↓itB, ↓rtB, ↓rt_v, ↓g_ninI, ↓g_inI, ↓w_Lc, ↓w_LcM, ↓turn_nx, wipeL_cons, wipeL_nil, ↓sw0, ↓sw1, ↓sw2, ↓gix2, ↓app0, ↓app1, ↓app2, ↓appB, ↓isL0, ↓isL1, ↓isL2, ↓isLB, ↓isLv, ↓at_head, ↓v0, ↓v1, ↓v2, ↓v3, ↓v4, ↓v5, ↓v6, ↓v7, ↓v8, ↓v9, ↓v10, ↓v11, ↓v12, ↓v13, ↓v14, ↓v15, ↓v16, ↓v17, ↓t0, ↓t1, ↓t2, ↓t3, ↓t4, ↓t5, ↓t6, ↓t7, ↓t8, ↓setAll0, ↓setAll1, List.set_cons_zero, List.set_cons_succ, decide_eq_true_eq, Bool.not_eq_true', decide_eq_false_iff_not])
        refine ⟨trivial, rfl, rfl, w_someI [0, 1, 7] hB8 (by decide) (by decide) fun ti o9 hti hB9 => ?_⟩
        simp only [List.mem_cons, List.not_mem_nil, or_false] at hti
        try (simp only [↓w_c, ↓w_e2, ↓we1', ↓p_v, ↓pr0, ↓pr1, ↓pr2, ↓pr3, ↓prA, ↓prB, ↓poL, ↓poD, ↓wB', ↓wt_N, ↓wt_An, ↓wt_Or, ↓wt_Ye, ↓w_Bo, ↓w_An, ↓w_Or, ↓w_If, ↓ws_If, ↓wa_Nil, ↓wa_Cons, ↓wTup', ↓wLst', ↓wLstM', ↓w_Dct, ↓w_DctM, ↓w_B, ↓w_Call, ↓wMt', ↓pl_nil, ↓pl_cons, ↓wc_P, ↓wc_M, ↓wSl', ↓wo_No, ↓woS', ↓wRlv, ↓wRlm, ↓ws_Nil, ↓ws_Cons, ↓then_nx, ↓then_rt, ↓ws_Asg, ↓wg_Nm, ↓wg_Tp, ↓wgs_Nil, ↓wgs_Cons, ↓wgSb', ↓ws_Par, ↓aug0, ↓aug1, ↓aug2, ↓aug3, ↓aug4, ↓aug5, ↓aug6, ↓aug7, ↓aug8, ↓aug9, ↓aug10, ↓aug11, ↓aug12, ↓aug13, ↓aug14, ↓aug15, ↓aug16, ↓aug17, ↓wAugS', ↓ws_Ret, ↓ws_RetT, ↓ws_Drop, ↓ws_For, ↓wSq', ↓wRg', ↓rg1, ↓rg2, ↓rg3, ↓rl1, ↓rl2, ↓rl3, ↓wEn', ↓enV, ↓wZp', ↓zpVV, ↓zpVB, ↓g_add, ↓g_addL, ↓g_addT, ↓g_iadd, ↓g_sub, ↓g_mul, ↓g_mulL, ↓g_fdiv, ↓g_mod, ↓g_pow, ↓g_lt, ↓g_le, ↓g_gt, ↓g_ge, ↓g_eqI, ↓g_neI, ↓g_is, ↓g_isnt, ↓g_ixT, ↓g_ixL, ↓g_ixD, ↓gl_abs, ↓gl_max, ↓gl_min, ↓gl_int, ↓gl_intB, ↓gl_gcd, ↓gl_lenL, ↓gl_lenT, ↓gl_tupL, ↓gl_tupT, ↓gl_lstL, ↓gl_lstT, ↓gl_rep, ↓gl_sortD, ↓gl_sortL, ↓ngI, ↓slL, ↓slT, ↓slS, ↓bo, ↓io, ↓av0, ↓av1, ↓itL, ↓itT, ↓it0, ↓it1, ↓it2, ↓itB, ↓rtB, ↓rt_v, ↓g_ninI, ↓g_inI, ↓w_Lc, ↓w_LcM, ↓turn_nx, wipeL_cons, wipeL_nil, ↓sw0, ↓sw1, ↓sw2, ↓gix2, ↓app0, ↓app1, ↓app2, ↓appB, ↓isL0, ↓isL1, ↓isL2, ↓isLB, ↓isLv, ↓at_head, ↓v0, ↓v1, ↓v2, ↓v3, ↓v4, ↓v5, ↓v6, ↓v7, ↓v8, ↓v9, ↓v10, ↓v11, ↓v12, ↓v13, ↓v14, ↓v15, ↓v16, ↓v17, ↓t0, ↓t1, ↓t2, ↓t3, ↓t4, ↓t5, ↓t6, ↓t7, ↓t8, ↓setAll0, ↓setAll1, List.set_cons_zero, List.set_cons_succ, decide_eq_true_eq, Bool.not_eq_true', decide_eq_false_iff_not])
        refine ⟨rfl, by rw [List.length_map]; omega, sc ++ [⟨least + ti, b'.need + ho, ls⟩], o9, _, _, _, by simp [hsi], ?_, hB9, by simp [Scene.v], rfl⟩
        intro q hq
        rcases List.mem_append.mp hq with hq | hq
        · exact hso q hq
        · have e : q = ⟨least + ti, b'.need + ho, ls⟩ := by simpa using hq
          subst e
          have hn : 0 ≤ b'.need ∧ b'.need ≤ 50 := by
            have h1 := hb'.fl
            have h2 := hb'.ck
            have h3 := hb'.g
            have h4 := hb'.h
            unfold Bnd.need Bnd.lag
            omega
          exact ⟨⟨by show 1 ≤ least + ti; omega, by show least + ti ≤ 10000; omega⟩, ⟨by show 0 ≤ b'.need + ho; omega, by show b'.need + ho ≤ 100; omega⟩, hlo, hll⟩
      · rintro r S' ⟨sc, o', d, e, f, hsi, hso, hB', rfl, rfl⟩
        rw [rngV_length] at hsi
        refine ⟨ok_nil _, ?_⟩
        unfold d__law_show_9
        try (simp only [↓w_c, ↓w_e2, ↓we1', ↓p_v, ↓pr0, ↓pr1, ↓pr2, ↓pr3, ↓prA, ↓prB, ↓poL, ↓poD, ↓wB', ↓wt_N, ↓wt_An, ↓wt_Or, ↓wt_Ye, ↓w_Bo, ↓w_An, ↓w_Or, ↓w_If, ↓ws_If, ↓wa_Nil, ↓wa_Cons, ↓wTup', ↓wLst', ↓wLstM', ↓w_Dct, ↓w_DctM, ↓w_B, ↓w_Call, ↓wMt', ↓pl_nil, ↓pl_cons, ↓wc_P, ↓wc_M, ↓wSl', ↓wo_No, ↓woS', ↓wRlv, ↓wRlm, ↓ws_Nil, ↓ws_Cons, ↓then_nx, ↓then_rt, ↓ws_Asg, ↓wg_Nm, ↓wg_Tp, ↓wgs_Nil, ↓wgs_Cons, ↓wgSb', ↓ws_Par, ↓aug0, ↓aug1, ↓aug2, ↓aug3, ↓aug4, ↓aug5, ↓aug6, ↓aug7, ↓aug8, ↓aug9, ↓aug10, ↓aug11, ↓aug12, ↓aug13, ↓aug14, ↓aug15, ↓aug16, ↓aug17, ↓wAugS', ↓ws_Ret, ↓ws_RetT, ↓ws_Drop, ↓ws_For, ↓wSq', ↓wRg', ↓rg1, ↓rg2, ↓rg3, ↓rl1, ↓rl2, ↓rl3, ↓wEn', ↓enV, ↓wZp', ↓zpVV, ↓zpVB, ↓g_add, ↓g_addL, ↓g_addT, ↓g_iadd, ↓g_sub, ↓g_mul, ↓g_mulL, ↓g_fdiv, ↓g_mod, ↓g_pow, ↓g_lt, ↓g_le, ↓g_gt, ↓g_ge, ↓g_eqI, ↓g_neI, ↓g_is, ↓g_isnt, ↓g_ixT, ↓g_ixL, ↓g_ixD, ↓gl_abs, ↓gl_max, ↓gl_min, ↓gl_int, ↓gl_intB, ↓gl_gcd, ↓gl_lenL, ↓gl_lenT, ↓gl_tupL, ↓gl_tupT, ↓gl_lstL, ↓gl_lstT, ↓gl_rep, ↓gl_sortD, ↓gl_sortL, ↓ngI, ↓slL, ↓slT, ↓slS, ↓bo, ↓io, ↓av0, ↓av1, ↓itL, ↓itT, ↓it0, ↓it1, ↓it2, ↓itB, ↓rtB, ↓rt_v, ↓g_ninI, ↓g_inI, ↓w_Lc, ↓w_LcM, ↓turn_nx, wipeL_cons, wipeL_nil, ↓sw0, ↓sw1, ↓sw2, ↓gix2, ↓app0, ↓app1, ↓app2, ↓appB, ↓isL0, ↓isL1, ↓isL2, ↓isLB, ↓isLv, ↓at_head, ↓v0, ↓v1, ↓v2, ↓v3, ↓v4, ↓v5, ↓v6, ↓v7, ↓v8, ↓v9, ↓v10, ↓v11, ↓v12, ↓v13, ↓v14, ↓v15, ↓v16, ↓v17, ↓t0, ↓t1, ↓t2, ↓t3, ↓t4, ↓t5, ↓t6, ↓t7, ↓t8, ↓setAll0, ↓setAll1, List.set_cons_zero, List.set_cons_succ, decide_eq_true_eq, Bool.not_eq_true', decide_eq_false_iff_not])
        refine ⟨rfl, rfl, w_someI [0, 5] hB' (by decide) (by decide) fun mo o6 hmo hB6 => ?_⟩
        simp only [List.mem_cons, List.not_mem_nil, or_false] at hmo
        try (simp only [↓w_c, ↓w_e2, ↓we1', ↓p_v, ↓pr0, ↓pr1, ↓pr2, ↓pr3, ↓prA, ↓prB, ↓poL, ↓poD, ↓wB', ↓wt_N, ↓wt_An, ↓wt_Or, ↓wt_Ye, ↓w_Bo, ↓w_An, ↓w_Or, ↓w_If, ↓ws_If, ↓wa_Nil, ↓wa_Cons, ↓wTup', ↓wLst', ↓wLstM', ↓w_Dct, ↓w_DctM, ↓w_B, ↓w_Call, ↓wMt', ↓pl_nil, ↓pl_cons, ↓wc_P, ↓wc_M, ↓wSl', ↓wo_No, ↓woS', ↓wRlv, ↓wRlm, ↓ws_Nil, ↓ws_Cons, ↓then_nx, ↓then_rt, ↓ws_Asg, ↓wg_Nm, ↓wg_Tp, ↓wgs_Nil, ↓wgs_Cons, ↓wgSb', ↓ws_Par, ↓aug0, ↓aug1, ↓aug2, ↓aug3, ↓aug4, ↓aug5, ↓aug6, ↓aug7, ↓aug8, ↓aug9, ↓aug10, ↓aug11, ↓aug12, ↓aug13, ↓aug14, ↓aug15, ↓aug16, ↓aug17, ↓wAugS', ↓ws_Ret, ↓ws_RetT, ↓ws_Drop, ↓ws_For, ↓wSq', ↓wRg', ↓rg1, ↓rg2, ↓rg3, ↓rl1, ↓rl2, ↓rl3, ↓wEn', ↓enV, ↓wZp', ↓zpVV, ↓zpVB, ↓g_add, ↓g_addL, ↓g_addT, ↓g_iadd, ↓g_sub, ↓g_mul, ↓g_mulL, ↓g_fdiv, ↓g_mod, ↓g_pow, ↓g_lt, ↓g_le, ↓g_gt, ↓g_ge, ↓g_eqI, ↓g_neI, ↓g_is, ↓g_isnt, ↓g_ixT, ↓g_ixL, ↓g_ixD, ↓gl_abs, ↓gl_max, ↓gl_min, ↓gl_int, ↓gl_intB, ↓gl_gcd, ↓gl_lenL, ↓gl_lenT, ↓gl_tupL, ↓gl_tupT, ↓gl_lstL, ↓gl_lstT, ↓gl_rep, ↓gl_sortD, ↓gl_sortL, ↓ngI, ↓slL, ↓slT, ↓slS, ↓bo, ↓io, ↓av0, ↓av1, ↓itL, ↓itT, ↓it0, ↓it1, ↓it2, ↓itB, ↓rtB, ↓rt_v, ↓g_ninI, ↓g_inI, ↓w_Lc, ↓w_LcM, ↓turn_nx, wipeL_cons, wipeL_nil, ↓sw0, ↓sw1, ↓sw2, ↓gix2, ↓app0, ↓app1, ↓app2, ↓appB, ↓isL0, ↓isL1, ↓isL2, ↓isLB, ↓isLv, ↓at_head, ↓v0, ↓v1, ↓v2, ↓v3, ↓v4, ↓v5, ↓v6, ↓v7, ↓v8, ↓v9, ↓v10, ↓v11, ↓v12, ↓v13, ↓v14, ↓v15, ↓v16, ↓v17, ↓t0, ↓t1, ↓t2, ↓t3, ↓t4, ↓t5, ↓t6, ↓t7, ↓t8, ↓setAll0, ↓setAll1, List.set_cons_zero, List.set_cons_succ, decide_eq_true_eq, Bool.not_eq_true', decide_eq_false_iff_not])
        refine ⟨rfl, w_showof hB6 hb' ⟨by omega, hpo⟩ ⟨by omega, hso⟩ (by omega) fun s o7 hs hB7 => ?_⟩
        exact rt_n rfl (by simp) rfl (k s o7 hs hB7)
  unfold Bnd.v
  try (simp only [↓w_c, ↓w_e2, ↓we1', ↓p_v, ↓pr0, ↓pr1, ↓pr2, ↓pr3, ↓prA, ↓prB, ↓poL, ↓poD, ↓wB', ↓wt_N, ↓wt_An, ↓wt_Or, ↓wt_Ye, ↓w_Bo, ↓w_An, ↓w_Or, ↓w_If, ↓ws_If, ↓wa_Nil, ↓wa_Cons, ↓wTup', ↓wLst', ↓wLstM', ↓w_Dct, ↓w_DctM, ↓w_B, ↓w_Call, ↓wMt', ↓pl_nil, ↓pl_cons, ↓wc_P, ↓wc_M, ↓wSl', ↓wo_No, ↓woS', ↓wRlv, ↓wRlm, ↓ws_Nil, ↓ws_Cons, ↓then_nx, ↓then_rt, ↓ws_Asg, ↓wg_Nm, ↓wg_Tp, ↓wgs_Nil, ↓wgs_Cons, ↓wgSb', ↓ws_Par, ↓aug0, ↓aug1, ↓aug2, ↓aug3, ↓aug4, ↓aug5, ↓aug6, ↓aug7, ↓aug8, ↓aug9, ↓aug10, ↓aug11, ↓aug12, ↓aug13, ↓aug14, ↓aug15, ↓aug16, ↓aug17, ↓wAugS', ↓ws_Ret, ↓ws_RetT, ↓ws_Drop, ↓ws_For, ↓wSq', ↓wRg', ↓rg1, ↓rg2, ↓rg3, ↓rl1, ↓rl2, ↓rl3, ↓wEn', ↓enV, ↓wZp', ↓zpVV, ↓zpVB, ↓g_add, ↓g_addL, ↓g_addT, ↓g_iadd, ↓g_sub, ↓g_mul, ↓g_mulL, ↓g_fdiv, ↓g_mod, ↓g_pow, ↓g_lt, ↓g_le, ↓g_gt, ↓g_ge, ↓g_eqI, ↓g_neI, ↓g_is, ↓g_isnt, ↓g_ixT, ↓g_ixL, ↓g_ixD, ↓gl_abs, ↓gl_max, ↓gl_min, ↓gl_int, ↓gl_intB, ↓gl_gcd, ↓gl_lenL, ↓gl_lenT, ↓gl_tupL, ↓gl_tupT, ↓gl_lstL, ↓gl_lstT, ↓gl_rep, ↓gl_sortD, ↓gl_sortL, ↓ngI, ↓slL, ↓slT, ↓slS, ↓bo, ↓io, ↓av0, ↓av1, ↓itL, ↓itT, ↓it0, ↓it1, ↓it2, ↓itB, ↓rtB, ↓rt_v, ↓g_ninI, ↓g_inI, ↓w_Lc, ↓w_LcM, ↓turn_nx, wipeL_cons, wipeL_nil, ↓sw0, ↓sw1, ↓sw2, ↓gix2, ↓app0, ↓app1, ↓app2, ↓appB, ↓isL0, ↓isL1, ↓isL2, ↓isLB, ↓isLv, ↓at_head, ↓v0, ↓v1, ↓v2, ↓v3, ↓v4, ↓v5, ↓v6, ↓v7, ↓v8, ↓v9, ↓v10, ↓v11, ↓v12, ↓v13, ↓v14, ↓v15, ↓v16, ↓v17, ↓t0, ↓t1, ↓t2, ↓t3, ↓t4, ↓t5, ↓t6, ↓t7, ↓t8, ↓setAll0, ↓setAll1, List.set_cons_zero, List.set_cons_succ, decide_eq_true_eq, Bool.not_eq_true', decide_eq_false_iff_not])
  refine ⟨⟨rfl, rfl⟩, ?_⟩
  try (simp only [↓w_c, ↓w_e2, ↓we1', ↓p_v, ↓pr0, ↓pr1, ↓pr2, ↓pr3, ↓prA, ↓prB, ↓poL, ↓poD, ↓wB', ↓wt_N, ↓wt_An, ↓wt_Or, ↓wt_Ye, ↓w_Bo, ↓w_An, ↓w_Or, ↓w_If, ↓ws_If, ↓wa_Nil, ↓wa_Cons, ↓wTup', ↓wLst', ↓wLstM', ↓w_Dct, ↓w_DctM, ↓w_B, ↓w_Call, ↓wMt', ↓pl_nil, ↓pl_cons, ↓wc_P, ↓wc_M, ↓wSl', ↓wo_No, ↓woS', ↓wRlv, ↓wRlm, ↓ws_Nil, ↓ws_Cons, ↓then_nx, ↓then_rt, ↓ws_Asg, ↓wg_Nm, ↓wg_Tp, ↓wgs_Nil, ↓wgs_Cons, ↓wgSb', ↓ws_Par, ↓aug0, ↓aug1, ↓aug2, ↓aug3, ↓aug4, ↓aug5, ↓aug6, ↓aug7, ↓aug8, ↓aug9, ↓aug10, ↓aug11, ↓aug12, ↓aug13, ↓aug14, ↓aug15, ↓aug16, ↓aug17, ↓wAugS', ↓ws_Ret, ↓ws_RetT, ↓ws_Drop, ↓ws_For, ↓wSq', ↓wRg', ↓rg1, ↓rg2, ↓rg3, ↓rl1, ↓rl2, ↓rl3, ↓wEn', ↓enV, ↓wZp', ↓zpVV, ↓zpVB, ↓g_add, ↓g_addL, ↓g_addT, ↓g_iadd, ↓g_sub, ↓g_mul, ↓g_mulL, ↓g_fdiv, ↓g_mod, ↓g_pow, ↓g_lt, ↓g_le, ↓g_gt, ↓g_ge, ↓g_eqI, ↓g_neI, ↓g_is, ↓g_isnt, ↓g_ixT, ↓g_ixL, ↓g_ixD, ↓gl_abs, ↓gl_max, ↓gl_min, ↓gl_int, ↓gl_intB, ↓gl_gcd, ↓gl_lenL, ↓gl_lenT, ↓gl_tupL, ↓gl_tupT, ↓gl_lstL, ↓gl_lstT, ↓gl_rep, ↓gl_sortD, ↓gl_sortL, ↓ngI, ↓slL, ↓slT, ↓slS, ↓bo, ↓io, ↓av0, ↓av1, ↓itL, ↓itT, ↓it0, ↓it1, ↓it2, ↓itB, ↓rtB, ↓rt_v, ↓g_ninI, ↓g_inI, ↓w_Lc, ↓w_LcM, ↓turn_nx, wipeL_cons, wipeL_nil, ↓sw0, ↓sw1, ↓sw2, ↓gix2, ↓app0, ↓app1, ↓app2, ↓appB, ↓isL0, ↓isL1, ↓isL2, ↓isLB, ↓isLv, ↓at_head, ↓v0, ↓v1, ↓v2, ↓v3, ↓v4, ↓v5, ↓v6, ↓v7, ↓v8, ↓v9, ↓v10, ↓v11, ↓v12, ↓v13, ↓v14, ↓v15, ↓v16, ↓v17, ↓t0, ↓t1, ↓t2, ↓t3, ↓t4, ↓t5, ↓t6, ↓t7, ↓t8, ↓setAll0, ↓setAll1, List.set_cons_zero, List.set_cons_succ, decide_eq_true_eq, Bool.not_eq_true', decide_eq_false_iff_not])
  refine ⟨by
    have h1 := hi.nr
    rw [big_of (by omega) (by omega)]
    show smallL (b.nr - 0).toNat = true
    have : (b.nr - 0).toNat ≤ 14 := by omega
    exact small_of.mpr (by omega), ?_⟩
  have c2 : ∀ a b c d e f g h i : PV, cutP [a, b, c, d, e, f, g, h, i] (some 2) none = [c, d, e, f, g, h, i] := fun _ _ _ _ _ _ _ _ _ => rfl
  have c5 : ∀ a b c d e f g h i : PV, cutP [a, b, c, d, e, f, g, h, i] (some 5) none = [f, g, h, i] := fun _ _ _ _ _ _ _ _ _ => rfl
  have hnr := hi.nr
  refine ⟨small_of.mpr (by rw [rngC_length]; omega), ?_⟩
  refine wl_inv (fun i acc S' => S' = [o1] ∧ ∃ ks : List Int, acc = ks.map PV.int ∧ ∀ n ∈ ks, (1 ≤ n ∧ n ≤ b.nr) ∧ ({ b with nr := n } : Bnd).enough 9990 = true) ⟨rfl, [], rfl, by simp⟩ ?_ ?_
  · rintro i x acc S' hx ⟨rfl, ks, rfl, hks⟩
    refine ⟨ok_nil _, ?_⟩
    obtain ⟨hlt, rfl⟩ : i < (b.nr - 0).toNat ∧ x = .int (b.nr + i * -1) := by
      unfold rngC at hx
      rw [List.getElem?_map] at hx
      obtain ⟨j, hj, rfl⟩ := Option.map_eq_some_iff.mp hx
      obtain ⟨h1, h2⟩ := List.getElem?_eq_some_iff.mp hj
      rw [List.getElem_range] at h2
      subst h2
      rw [List.length_range] at h1
      exact ⟨h1, rfl⟩
    have hn : 1 ≤ b.nr + i * -1 ∧ b.nr + i * -1 ≤ b.nr := by omega
    generalize b.nr + i * -1 = n at hn
    try (simp only [↓w_c, ↓w_e2, ↓we1', ↓p_v, ↓pr0, ↓pr1, ↓pr2, ↓pr3, ↓prA, ↓prB, ↓poL, ↓poD, ↓wB', ↓wt_N, ↓wt_An, ↓wt_Or, ↓wt_Ye, ↓w_Bo, ↓w_An, ↓w_Or, ↓w_If, ↓ws_If, ↓wa_Nil, ↓wa_Cons, ↓wTup', ↓wLst', ↓wLstM', ↓w_Dct, ↓w_DctM, ↓w_B, ↓w_Call, ↓wMt', ↓pl_nil, ↓pl_cons, ↓wc_P, ↓wc_M, ↓wSl', ↓wo_No, ↓woS', ↓wRlv, ↓wRlm, ↓ws_Nil, ↓ws_Cons, ↓then_nx, ↓then_rt, ↓ws_Asg, ↓wg_Nm, ↓wg_Tp, ↓wgs_Nil, ↓wgs_Cons, ↓wgSb', ↓ws_Par, ↓aug0, ↓aug1, ↓aug2, ↓aug3, ↓aug4, ↓aug5, ↓aug6, ↓aug7, ↓aug8, ↓aug9, ↓aug10, ↓aug11, ↓aug12, ↓aug13, ↓aug14, ↓aug15, ↓aug16, ↓aug17, ↓wAugS', ↓ws_Ret, ↓ws_RetT, ↓ws_Drop, ↓ws_For, ↓wSq', ↓wRg', ↓rg1, ↓rg2, ↓rg3, ↓rl1, ↓rl2, ↓rl3, ↓wEn', ↓enV, ↓wZp', ↓zpVV, ↓zpVB, ↓g_add, ↓g_addL, ↓g_addT, ↓g_iadd, ↓g_sub, ↓g_mul, ↓g_mulL, ↓g_fdiv, ↓g_mod, ↓g_pow, ↓g_lt, ↓g_le, ↓g_gt, ↓g_ge, ↓g_eqI, ↓g_neI, ↓g_is, ↓g_isnt, ↓g_ixT, ↓g_ixL, ↓g_ixD, ↓gl_abs, ↓gl_max, ↓gl_min, ↓gl_int, ↓gl_intB, ↓gl_gcd, ↓gl_lenL, ↓gl_lenT, ↓gl_tupL, ↓gl_tupT, ↓gl_lstL, ↓gl_lstT, ↓gl_rep, ↓gl_sortD, ↓gl_sortL, ↓ngI, ↓slL, ↓slT, ↓slS, ↓bo, ↓io, ↓av0, ↓av1, ↓itL, ↓itT, ↓it0, ↓it1, ↓it2, ↓itB, ↓rtB, ↓rt_v, ↓g_ninI, ↓g_inI, ↓w_Lc, ↓w_LcM, ↓turn_nx, wipeL_cons, wipeL_nil, ↓sw0, ↓sw1, ↓sw2, ↓gix2, ↓app0, ↓app1, ↓app2, ↓appB, ↓isL0, ↓isL1, ↓isL2, ↓isLB, ↓isLv, ↓at_head, ↓v0, ↓v1, ↓v2, ↓v3, ↓v4, ↓v5, ↓v6, ↓v7, ↓v8, ↓v9, ↓v10, ↓v11, ↓v12, ↓v13, ↓v14, ↓v15, ↓v16, ↓v17, ↓t0, ↓t1, ↓t2, ↓t3, ↓t4, ↓t5, ↓t6, ↓t7, ↓t8, ↓setAll0, ↓setAll1, List.set_cons_zero, List.set_cons_succ, decide_eq_true_eq, Bool.not_eq_true', decide_eq_false_iff_not])
    refine ⟨rfl, rfl, rfl, ?_⟩
    rw [c2]
    refine w_first (b := { b with nr := n }) ⟨hi.sp, ⟨hn.1, by show n ≤ 14; omega⟩, hi.wd, hi.ck, hi.fl, hi.wy, hi.g, hi.h, hi.d⟩ fun x hx => ?_
    try (simp only [↓w_c, ↓w_e2, ↓we1', ↓p_v, ↓pr0, ↓pr1, ↓pr2, ↓pr3, ↓prA, ↓prB, ↓poL, ↓poD, ↓wB', ↓wt_N, ↓wt_An, ↓wt_Or, ↓wt_Ye, ↓w_Bo, ↓w_An, ↓w_Or, ↓w_If, ↓ws_If, ↓wa_Nil, ↓wa_Cons, ↓wTup', ↓wLst', ↓wLstM', ↓w_Dct, ↓w_DctM, ↓w_B, ↓w_Call, ↓wMt', ↓pl_nil, ↓pl_cons, ↓wc_P, ↓wc_M, ↓wSl', ↓wo_No, ↓woS', ↓wRlv, ↓wRlm, ↓ws_Nil, ↓ws_Cons, ↓then_nx, ↓then_rt, ↓ws_Asg, ↓wg_Nm, ↓wg_Tp, ↓wgs_Nil, ↓wgs_Cons, ↓wgSb', ↓ws_Par, ↓aug0, ↓aug1, ↓aug2, ↓aug3, ↓aug4, ↓aug5, ↓aug6, ↓aug7, ↓aug8, ↓aug9, ↓aug10, ↓aug11, ↓aug12, ↓aug13, ↓aug14, ↓aug15, ↓aug16, ↓aug17, ↓wAugS', ↓ws_Ret, ↓ws_RetT, ↓ws_Drop, ↓ws_For, ↓wSq', ↓wRg', ↓rg1, ↓rg2, ↓rg3, ↓rl1, ↓rl2, ↓rl3, ↓wEn', ↓enV, ↓wZp', ↓zpVV, ↓zpVB, ↓g_add, ↓g_addL, ↓g_addT, ↓g_iadd, ↓g_sub, ↓g_mul, ↓g_mulL, ↓g_fdiv, ↓g_mod, ↓g_pow, ↓g_lt, ↓g_le, ↓g_gt, ↓g_ge, ↓g_eqI, ↓g_neI, ↓g_is, ↓g_isnt, ↓g_ixT, ↓g_ixL, ↓g_ixD, ↓gl_abs, ↓gl_max, ↓gl_min, ↓gl_int, ↓gl_intB, ↓gl_gcd, ↓gl_lenL, ↓gl_lenT, ↓gl_tupL, ↓gl_tupT, ↓gl_lstL, ↓gl_lstT, ↓gl_rep, ↓gl_sortD, ↓gl_sortL, ↓ngI, ↓slL, ↓slT, ↓slS, ↓bo, ↓io, ↓av0, ↓av1, ↓itL, ↓itT, ↓it0, ↓it1, ↓it2, ↓itB, ↓rtB, ↓rt_v, ↓g_ninI, ↓g_inI, ↓w_Lc, ↓w_LcM, ↓turn_nx, wipeL_cons, wipeL_nil, ↓sw0, ↓sw1, ↓sw2, ↓gix2, ↓app0, ↓app1, ↓app2, ↓appB, ↓isL0, ↓isL1, ↓isL2, ↓isLB, ↓isLv, ↓at_head, ↓v0, ↓v1, ↓v2, ↓v3, ↓v4, ↓v5, ↓v6, ↓v7, ↓v8, ↓v9, ↓v10, ↓v11, ↓v12, ↓v13, ↓v14, ↓v15, ↓v16, ↓v17, ↓t0, ↓t1, ↓t2, ↓t3, ↓t4, ↓t5, ↓t6, ↓t7, ↓t8, ↓setAll0, ↓setAll1, List.set_cons_zero, List.set_cons_succ, decide_eq_true_eq, Bool.not_eq_true', decide_eq_false_iff_not])
    by_cases hc : 9990 < max 1 ({ b with nr := n } : Bnd).lag ∨ ({ b with nr := n } : Bnd).enough 9990 = false
    · rw [if_pos hc] at hx
      subst hx
      exact ⟨trivial, ks, rfl, hks⟩
    · rw [if_neg hc] at hx
      obtain ⟨j, rfl, _, _⟩ := hx
      refine ⟨_, rfl, trivial, ks ++ [n], by simp, ?_⟩
      intro m hm
      rcases List.mem_append.mp hm with hm | hm
      · exact hks m hm
      · have e : m = n := by simpa using hm
        subst e
        refine ⟨hn, ?_⟩
        cases he : ({ b with nr := m } : Bnd).enough 9990 with
        | true => rfl
        | false => exact absurd (Or.inr he) hc
  · rintro acc S' ⟨rfl, ks, rfl, hks⟩
    refine ⟨ok_nil _, ?_⟩
    try (simp only [↓w_c, ↓w_e2, ↓we1', ↓p_v, ↓pr0, ↓pr1, ↓pr2, ↓pr3, ↓prA, ↓prB, ↓poL, ↓poD, ↓wB', ↓wt_N, ↓wt_An, ↓wt_Or, ↓wt_Ye, ↓w_Bo, ↓w_An, ↓w_Or, ↓w_If, ↓ws_If, ↓wa_Nil, ↓wa_Cons, ↓wTup', ↓wLst', ↓wLstM', ↓w_Dct, ↓w_DctM, ↓w_B, ↓w_Call, ↓wMt', ↓pl_nil, ↓pl_cons, ↓wc_P, ↓wc_M, ↓wSl', ↓wo_No, ↓woS', ↓wRlv, ↓wRlm, ↓ws_Nil, ↓ws_Cons, ↓then_nx, ↓then_rt, ↓ws_Asg, ↓wg_Nm, ↓wg_Tp, ↓wgs_Nil, ↓wgs_Cons, ↓wgSb', ↓ws_Par, ↓aug0, ↓aug1, ↓aug2, ↓aug3, ↓aug4, ↓aug5, ↓aug6, ↓aug7, ↓aug8, ↓aug9, ↓aug10, ↓aug11, ↓aug12, ↓aug13, ↓aug14, ↓aug15, ↓aug16, ↓aug17, ↓wAugS', ↓ws_Ret, ↓ws_RetT, ↓ws_Drop, ↓ws_For, ↓wSq', ↓wRg', ↓rg1, ↓rg2, ↓rg3, ↓rl1, ↓rl2, ↓rl3, ↓wEn', ↓enV, ↓wZp', ↓zpVV, ↓zpVB, ↓g_add, ↓g_addL, ↓g_addT, ↓g_iadd, ↓g_sub, ↓g_mul, ↓g_mulL, ↓g_fdiv, ↓g_mod, ↓g_pow, ↓g_lt, ↓g_le, ↓g_gt, ↓g_ge, ↓g_eqI, ↓g_neI, ↓g_is, ↓g_isnt, ↓g_ixT, ↓g_ixL, ↓g_ixD, ↓gl_abs, ↓gl_max, ↓gl_min, ↓gl_int, ↓gl_intB, ↓gl_gcd, ↓gl_lenL, ↓gl_lenT, ↓gl_tupL, ↓gl_tupT, ↓gl_lstL, ↓gl_lstT, ↓gl_rep, ↓gl_sortD, ↓gl_sortL, ↓ngI, ↓slL, ↓slT, ↓slS, ↓bo, ↓io, ↓av0, ↓av1, ↓itL, ↓itT, ↓it0, ↓it1, ↓it2, ↓itB, ↓rtB, ↓rt_v, ↓g_ninI, ↓g_inI, ↓w_Lc, ↓w_LcM, ↓turn_nx, wipeL_cons, wipeL_nil, ↓sw0, ↓sw1, ↓sw2, ↓gix2, ↓app0, ↓app1, ↓app2, ↓appB, ↓isL0, ↓isL1, ↓isL2, ↓isLB, ↓isLv, ↓at_head, ↓v0, ↓v1, ↓v2, ↓v3, ↓v4, ↓v5, ↓v6, ↓v7, ↓v8, ↓v9, ↓v10, ↓v11, ↓v12, ↓v13, ↓v14, ↓v15, ↓v16, ↓v17, ↓t0, ↓t1, ↓t2, ↓t3, ↓t4, ↓t5, ↓t6, ↓t7, ↓t8, ↓setAll0, ↓setAll1, List.set_cons_zero, List.set_cons_succ, decide_eq_true_eq, Bool.not_eq_true', decide_eq_false_iff_not])
    refine ⟨rfl, ?_⟩
    rw [g_neNil]
    cases ks with
    | nil =>
      rw [List.isEmpty_nil]
      try (simp only [↓w_c, ↓w_e2, ↓we1', ↓p_v, ↓pr0, ↓pr1, ↓pr2, ↓pr3, ↓prA, ↓prB, ↓poL, ↓poD, ↓wB', ↓wt_N, ↓wt_An, ↓wt_Or, ↓wt_Ye, ↓w_Bo, ↓w_An, ↓w_Or, ↓w_If, ↓ws_If, ↓wa_Nil, ↓wa_Cons, ↓wTup', ↓wLst', ↓wLstM', ↓w_Dct, ↓w_DctM, ↓w_B, ↓w_Call, ↓wMt', ↓pl_nil, ↓pl_cons, ↓wc_P, ↓wc_M, ↓wSl', ↓wo_No, ↓woS', ↓wRlv, ↓wRlm, ↓ws_Nil, ↓ws_Cons, ↓then_nx, ↓then_rt, ↓ws_Asg, ↓wg_Nm, ↓wg_Tp, ↓wgs_Nil, ↓wgs_Cons, ↓wgSb', ↓ws_Par, ↓aug0, ↓aug1, ↓aug2, ↓aug3, ↓aug4, ↓aug5, ↓aug6, ↓aug7, ↓aug8, ↓aug9, ↓aug10, ↓aug11, ↓aug12, ↓aug13, ↓aug14, ↓aug15, ↓aug16, ↓aug17, ↓wAugS', ↓ws_Ret, ↓ws_RetT, ↓ws_Drop, ↓ws_For, ↓wSq', ↓wRg', ↓rg1, ↓rg2, ↓rg3, ↓rl1, ↓rl2, ↓rl3, ↓wEn', ↓enV, ↓wZp', ↓zpVV, ↓zpVB, ↓g_add, ↓g_addL, ↓g_addT, ↓g_iadd, ↓g_sub, ↓g_mul, ↓g_mulL, ↓g_fdiv, ↓g_mod, ↓g_pow, ↓g_lt, ↓g_le, ↓g_gt, ↓g_ge, ↓g_eqI, ↓g_neI, ↓g_is, ↓g_isnt, ↓g_ixT, ↓g_ixL, ↓g_ixD, ↓gl_abs, ↓gl_max, ↓gl_min, ↓gl_int, ↓gl_intB, ↓gl_gcd, ↓gl_lenL, ↓gl_lenT, ↓gl_tupL, ↓gl_tupT, ↓gl_lstL, ↓gl_lstT, ↓gl_rep, ↓gl_sortD, ↓gl_sortL, ↓ngI, ↓slL, ↓slT, ↓slS, ↓bo, ↓io, ↓av0, ↓av1, ↓itL, ↓itT, ↓it0, ↓it1, ↓it2, ↓itB, ↓rtB, ↓rt_v, ↓g_ninI, ↓g_inI, ↓w_Lc, ↓w_LcM, ↓turn_nx, wipeL_cons, wipeL_nil, ↓sw0, ↓sw1, ↓sw2, ↓gix2, ↓app0, ↓app1, ↓app2, ↓appB, ↓isL0, ↓isL1, ↓isL2, ↓isLB, ↓isLv, ↓at_head, ↓v0, ↓v1, ↓v2, ↓v3, ↓v4, ↓v5, ↓v6, ↓v7, ↓v8, ↓v9, ↓v10, ↓v11, ↓v12, ↓v13, ↓v14, ↓v15, ↓v16, ↓v17, ↓t0, ↓t1, ↓t2, ↓t3, ↓t4, ↓t5, ↓t6, ↓t7, ↓t8, ↓setAll0, ↓setAll1, List.set_cons_zero, List.set_cons_succ, decide_eq_true_eq, Bool.not_eq_true', decide_eq_false_iff_not])
      refine ⟨rfl, rfl, ?_⟩
      rw [c5]
      exact rest { b with nr := 1, wd := 0, ck := 0, fl := 0 } _ _ (fall_ok hb).1 rfl (fall_ok hb).2
    | cons n ks =>
      rw [List.isEmpty_cons, List.map_cons]
      try (simp only [↓w_c, ↓w_e2, ↓we1', ↓p_v, ↓pr0, ↓pr1, ↓pr2, ↓pr3, ↓prA, ↓prB, ↓poL, ↓poD, ↓wB', ↓wt_N, ↓wt_An, ↓wt_Or, ↓wt_Ye, ↓w_Bo, ↓w_An, ↓w_Or, ↓w_If, ↓ws_If, ↓wa_Nil, ↓wa_Cons, ↓wTup', ↓wLst', ↓wLstM', ↓w_Dct, ↓w_DctM, ↓w_B, ↓w_Call, ↓wMt', ↓pl_nil, ↓pl_cons, ↓wc_P, ↓wc_M, ↓wSl', ↓wo_No, ↓woS', ↓wRlv, ↓wRlm, ↓ws_Nil, ↓ws_Cons, ↓then_nx, ↓then_rt, ↓ws_Asg, ↓wg_Nm, ↓wg_Tp, ↓wgs_Nil, ↓wgs_Cons, ↓wgSb', ↓ws_Par, ↓aug0, ↓aug1, ↓aug2, ↓aug3, ↓aug4, ↓aug5, ↓aug6, ↓aug7, ↓aug8, ↓aug9, ↓aug10, ↓aug11, ↓aug12, ↓aug13, ↓aug14, ↓aug15, ↓aug16, ↓aug17, ↓wAugS', ↓ws_Ret, ↓ws_RetT, ↓ws_Drop, ↓ws_For, ↓wSq', ↓wRg', ↓rg1, ↓rg2, ↓rg3, ↓rl1, ↓rl2, ↓rl3, ↓wEn', ↓enV, ↓wZp', ↓zpVV, ↓zpVB, ↓g_add, ↓g_addL, ↓g_addT, ↓g_iadd, ↓g_sub, ↓g_mul, ↓g_mulL, ↓g_fdiv, ↓g_mod, ↓g_pow, ↓g_lt, ↓g_le, ↓g_gt, ↓g_ge, ↓g_eqI, ↓g_neI, ↓g_is, ↓g_isnt, ↓g_ixT, ↓g_ixL, ↓g_ixD, ↓gl_abs, ↓gl_max, ↓gl_min, ↓gl_int, ↓gl_intB, ↓gl_gcd, ↓gl_lenL, ↓gl_lenT, ↓gl_tupL, ↓gl_tupT, ↓gl_lstL, ↓gl_lstT, ↓gl_rep, ↓gl_sortD, ↓gl_sortL, ↓ngI, ↓slL, ↓slT, ↓slS, ↓bo, ↓io, ↓av0, ↓av1, ↓itL, ↓itT, ↓it0, ↓it1, ↓it2, ↓itB, ↓rtB, ↓rt_v, ↓g_ninI, ↓g_inI, ↓w_Lc, ↓w_LcM, ↓turn_nx, wipeL_cons, wipeL_nil, ↓sw0, ↓sw1, ↓sw2, ↓gix2, ↓app0, ↓app1, ↓app2, ↓appB, ↓isL0, ↓isL1, ↓isL2, ↓isLB, ↓isLv, ↓at_head, ↓v0, ↓v1, ↓v2, ↓v3, ↓v4, ↓v5, ↓v6, ↓v7, ↓v8, ↓v9, ↓v10, ↓v11, ↓v12, ↓v13, ↓v14, ↓v15, ↓v16, ↓v17, ↓t0, ↓t1, ↓t2, ↓t3, ↓t4, ↓t5, ↓t6, ↓t7, ↓t8, ↓setAll0, ↓setAll1, List.set_cons_zero, List.set_cons_succ, decide_eq_true_eq, Bool.not_eq_true', decide_eq_false_iff_not])
      refine ⟨rfl, rfl, ?_⟩
      rw [c2]
      have hn := hks n List.mem_cons_self
      exact rest { b with nr := n } _ _ ⟨hi.sp, ⟨hn.1.1, by show n ≤ 14; omega⟩, hi.wd, hi.ck, hi.fl, hi.wy, hi.g, hi.h, hi.d⟩ rfl hn.2
end K61

namespace K61
open PySem PySem.Spec PyProof.Rows L2 Dn
/-- the moments of a show's scenes, from a scene's opening and leaving on -/
structure Tm where
  (o l a e : Int)
def Tm.v (t : Tm) : PV := .tup [.int t.o, .int t.l, .int t.a, .int t.e]
def tms (o l : Int) : List Scene → List Tm
  | [] => []
  | s :: ss => ⟨o, l, l + s.t, l + s.t + s.h⟩ :: tms (l + s.t) (l + s.t + s.h) ss
def endO (o l : Int) : List Scene → Int × Int
  | [] => (o, l)
  | s :: ss => endO (l + s.t) (l + s.t + s.h) ss
theorem tms_length (o l : Int) (ss : List Scene) : (tms o l ss).length = ss.length := by
  induction ss generalizing o l with
  | nil => rfl
  | cons s ss ih => exact congrArg (· + 1) (ih _ _)
theorem tms_snoc (o l : Int) (ss : List Scene) (s : Scene) : tms o l (ss ++ [s]) = tms o l ss ++ [⟨(endO o l ss).1, (endO o l ss).2, (endO o l ss).2 + s.t, (endO o l ss).2 + s.t + s.h⟩] := by
  induction ss generalizing o l with
  | nil => rfl
  | cons q ss ih => exact congrArg (List.cons _) (ih _ _)
theorem endO_snoc (o l : Int) (ss : List Scene) (s : Scene) : endO o l (ss ++ [s]) = ((endO o l ss).2 + s.t, (endO o l ss).2 + s.t + s.h) := by
  induction ss generalizing o l with
  | nil => rfl
  | cons q ss ih => exact ih _ _
theorem take_snoc {α : Type} {xs : List α} {i : Nat} {x : α} (h : xs[i]? = some x) : xs.take (i + 1) = xs.take i ++ [x] := by
  rw [List.take_succ, h]
  rfl
def Show.tl (s : Show) : List Tm := tms 0 s.b.need s.sc
theorem w_times {S : Sto} {s : Show} {Q : RV → Sto → Prop} (hn : s.sc.length ≤ 2) (q : Q (.v (.lst (s.tl.map Tm.v))) S) : WC c__law_times [.v s.v] S Q := by
  refine wc_d rfl ?_
  unfold m__law_times d__law_times_1 d__law_times_2 Show.v
  show W _ [some (.v (.tup _)), none, none, none, none, none, none] _ _
  simp only [↓w_c, ↓w_e2, ↓we1', ↓p_v, ↓pr0, ↓pr1, ↓pr2, ↓pr3, ↓prA, ↓prB, ↓poL, ↓poD, ↓wB', ↓wt_N, ↓wt_An, ↓wt_Or, ↓wt_Ye, ↓w_Bo, ↓w_An, ↓w_Or, ↓w_If, ↓ws_If, ↓wa_Nil, ↓wa_Cons, ↓wTup', ↓wLst', ↓wLstM', ↓w_Dct, ↓w_DctM, ↓w_B, ↓w_Call, ↓wMt', ↓pl_nil, ↓pl_cons, ↓wc_P, ↓wc_M, ↓wSl', ↓wo_No, ↓woS', ↓wRlv, ↓wRlm, ↓ws_Nil, ↓ws_Cons, ↓then_nx, ↓then_rt, ↓ws_Asg, ↓wg_Nm, ↓wg_Tp, ↓wgs_Nil, ↓wgs_Cons, ↓wgSb', ↓ws_Par, ↓aug0, ↓aug1, ↓aug2, ↓aug3, ↓aug4, ↓aug5, ↓aug6, ↓aug7, ↓aug8, ↓aug9, ↓aug10, ↓aug11, ↓aug12, ↓aug13, ↓aug14, ↓aug15, ↓aug16, ↓aug17, ↓wAugS', ↓ws_Ret, ↓ws_RetT, ↓ws_Drop, ↓ws_For, ↓wSq', ↓wRg', ↓rg1, ↓rg2, ↓rg3, ↓rl1, ↓rl2, ↓rl3, ↓wEn', ↓enV, ↓wZp', ↓zpVV, ↓zpVB, ↓g_add, ↓g_addL, ↓g_addT, ↓g_iadd, ↓g_sub, ↓g_mul, ↓g_mulL, ↓g_fdiv, ↓g_mod, ↓g_pow, ↓g_lt, ↓g_le, ↓g_gt, ↓g_ge, ↓g_eqI, ↓g_neI, ↓g_is, ↓g_isnt, ↓g_ixT, ↓g_ixL, ↓g_ixD, ↓gl_abs, ↓gl_max, ↓gl_min, ↓gl_int, ↓gl_intB, ↓gl_gcd, ↓gl_lenL, ↓gl_lenT, ↓gl_tupL, ↓gl_tupT, ↓gl_lstL, ↓gl_lstT, ↓gl_rep, ↓gl_sortD, ↓gl_sortL, ↓ngI, ↓slL, ↓slT, ↓slS, ↓bo, ↓io, ↓av0, ↓av1, ↓itL, ↓itT, ↓it0, ↓it1, ↓it2, ↓itB, ↓rtB, ↓rt_v, ↓g_ninI, ↓g_inI, ↓w_Lc, ↓w_LcM, ↓turn_nx, wipeL_cons, wipeL_nil, ↓sw0, ↓sw1, ↓sw2, ↓gix2, ↓app0, ↓app1, ↓app2, ↓appB, ↓isL0, ↓isL1, ↓isL2, ↓isLB, ↓isLv, ↓at_head, ↓v0, ↓v1, ↓v2, ↓v3, ↓v4, ↓v5, ↓v6, ↓v7, ↓v8, ↓v9, ↓v10, ↓v11, ↓v12, ↓v13, ↓v14, ↓v15, ↓v16, ↓v17, ↓t0, ↓t1, ↓t2, ↓t3, ↓t4, ↓t5, ↓t6, ↓t7, ↓t8, ↓setAll0, ↓setAll1, List.set_cons_zero, List.set_cons_succ, decide_eq_true_eq, Bool.not_eq_true', decide_eq_false_iff_not]
  refine ⟨by decide, rfl, w_needed ?_⟩
  try (simp only [↓w_c, ↓w_e2, ↓we1', ↓p_v, ↓pr0, ↓pr1, ↓pr2, ↓pr3, ↓prA, ↓prB, ↓poL, ↓poD, ↓wB', ↓wt_N, ↓wt_An, ↓wt_Or, ↓wt_Ye, ↓w_Bo, ↓w_An, ↓w_Or, ↓w_If, ↓ws_If, ↓wa_Nil, ↓wa_Cons, ↓wTup', ↓wLst', ↓wLstM', ↓w_Dct, ↓w_DctM, ↓w_B, ↓w_Call, ↓wMt', ↓pl_nil, ↓pl_cons, ↓wc_P, ↓wc_M, ↓wSl', ↓wo_No, ↓woS', ↓wRlv, ↓wRlm, ↓ws_Nil, ↓ws_Cons, ↓then_nx, ↓then_rt, ↓ws_Asg, ↓wg_Nm, ↓wg_Tp, ↓wgs_Nil, ↓wgs_Cons, ↓wgSb', ↓ws_Par, ↓aug0, ↓aug1, ↓aug2, ↓aug3, ↓aug4, ↓aug5, ↓aug6, ↓aug7, ↓aug8, ↓aug9, ↓aug10, ↓aug11, ↓aug12, ↓aug13, ↓aug14, ↓aug15, ↓aug16, ↓aug17, ↓wAugS', ↓ws_Ret, ↓ws_RetT, ↓ws_Drop, ↓ws_For, ↓wSq', ↓wRg', ↓rg1, ↓rg2, ↓rg3, ↓rl1, ↓rl2, ↓rl3, ↓wEn', ↓enV, ↓wZp', ↓zpVV, ↓zpVB, ↓g_add, ↓g_addL, ↓g_addT, ↓g_iadd, ↓g_sub, ↓g_mul, ↓g_mulL, ↓g_fdiv, ↓g_mod, ↓g_pow, ↓g_lt, ↓g_le, ↓g_gt, ↓g_ge, ↓g_eqI, ↓g_neI, ↓g_is, ↓g_isnt, ↓g_ixT, ↓g_ixL, ↓g_ixD, ↓gl_abs, ↓gl_max, ↓gl_min, ↓gl_int, ↓gl_intB, ↓gl_gcd, ↓gl_lenL, ↓gl_lenT, ↓gl_tupL, ↓gl_tupT, ↓gl_lstL, ↓gl_lstT, ↓gl_rep, ↓gl_sortD, ↓gl_sortL, ↓ngI, ↓slL, ↓slT, ↓slS, ↓bo, ↓io, ↓av0, ↓av1, ↓itL, ↓itT, ↓it0, ↓it1, ↓it2, ↓itB, ↓rtB, ↓rt_v, ↓g_ninI, ↓g_inI, ↓w_Lc, ↓w_LcM, ↓turn_nx, wipeL_cons, wipeL_nil, ↓sw0, ↓sw1, ↓sw2, ↓gix2, ↓app0, ↓app1, ↓app2, ↓appB, ↓isL0, ↓isL1, ↓isL2, ↓isLB, ↓isLv, ↓at_head, ↓v0, ↓v1, ↓v2, ↓v3, ↓v4, ↓v5, ↓v6, ↓v7, ↓v8, ↓v9, ↓v10, ↓v11, ↓v12, ↓v13, ↓v14, ↓v15, ↓v16, ↓v17, ↓t0, ↓t1, ↓t2, ↓t3, ↓t4, ↓t5, ↓t6, ↓t7, ↓t8, ↓setAll0, ↓setAll1, List.set_cons_zero, List.set_cons_succ, decide_eq_true_eq, Bool.not_eq_true', decide_eq_false_iff_not])
  refine ⟨⟨rfl, by decide⟩, ?_⟩
  refine wf_inv (fun i r S' => i ≤ s.sc.length ∧ S' = S ++ [.lst ((tms 0 s.b.need (s.sc.take i)).map Tm.v)] ∧ ∃ a b c : Option RV, r = [some (.v s.v), some (.ref S.length), some (.v (.int (endO 0 s.b.need (s.sc.take i)).1)), some (.v (.int (endO 0 s.b.need (s.sc.take i)).2)), a, b, c]) ⟨Nat.zero_le _, rfl, _, _, _, rfl⟩ ?_ ?_
  · rintro i x r S' hx ⟨hi, rfl, a, b, c, rfl⟩
    refine ⟨ok_nil _, ?_⟩
    rw [List.getElem?_map] at hx
    obtain ⟨q, hq, rfl⟩ := Option.map_eq_some_iff.mp hx
    have hlt := (List.getElem?_eq_some_iff.mp hq).1
    have e1 := tms_length 0 s.b.need (s.sc.take i)
    rw [List.length_take] at e1
    rw [take_snoc hq, tms_snoc, endO_snoc]
    generalize endO 0 s.b.need (s.sc.take i) = e at *
    generalize tms 0 s.b.need (s.sc.take i) = ts at *
    unfold b__law_times_1 b__law_times_1_1 Scene.v
    simp only [↓w_c, ↓w_e2, ↓we1', ↓p_v, ↓pr0, ↓pr1, ↓pr2, ↓pr3, ↓prA, ↓prB, ↓poL, ↓poD, ↓wB', ↓wt_N, ↓wt_An, ↓wt_Or, ↓wt_Ye, ↓w_Bo, ↓w_An, ↓w_Or, ↓w_If, ↓ws_If, ↓wa_Nil, ↓wa_Cons, ↓wTup', ↓wLst', ↓wLstM', ↓w_Dct, ↓w_DctM, ↓w_B, ↓w_Call, ↓wMt', ↓pl_nil, ↓pl_cons, ↓wc_P, ↓wc_M, ↓wSl', ↓wo_No, ↓woS', ↓wRlv, ↓wRlm, ↓ws_Nil, ↓ws_Cons, ↓then_nx, ↓then_rt, ↓ws_Asg, ↓wg_Nm, ↓wg_Tp, ↓wgs_Nil, ↓wgs_Cons, ↓wgSb', ↓ws_Par, ↓aug0, ↓aug1, ↓aug2, ↓aug3, ↓aug4, ↓aug5, ↓aug6, ↓aug7, ↓aug8, ↓aug9, ↓aug10, ↓aug11, ↓aug12, ↓aug13, ↓aug14, ↓aug15, ↓aug16, ↓aug17, ↓wAugS', ↓ws_Ret, ↓ws_RetT, ↓ws_Drop, ↓ws_For, ↓wSq', ↓wRg', ↓rg1, ↓rg2, ↓rg3, ↓rl1, ↓rl2, ↓rl3, ↓wEn', ↓enV, ↓wZp', ↓zpVV, ↓zpVB, ↓g_add, ↓g_addL, ↓g_addT, ↓g_iadd, ↓g_sub, ↓g_mul, ↓g_mulL, ↓g_fdiv, ↓g_mod, ↓g_pow, ↓g_lt, ↓g_le, ↓g_gt, ↓g_ge, ↓g_eqI, ↓g_neI, ↓g_is, ↓g_isnt, ↓g_ixT, ↓g_ixL, ↓g_ixD, ↓gl_abs, ↓gl_max, ↓gl_min, ↓gl_int, ↓gl_intB, ↓gl_gcd, ↓gl_lenL, ↓gl_lenT, ↓gl_tupL, ↓gl_tupT, ↓gl_lstL, ↓gl_lstT, ↓gl_rep, ↓gl_sortD, ↓gl_sortL, ↓ngI, ↓slL, ↓slT, ↓slS, ↓bo, ↓io, ↓av0, ↓av1, ↓itL, ↓itT, ↓it0, ↓it1, ↓it2, ↓itB, ↓rtB, ↓rt_v, ↓g_ninI, ↓g_inI, ↓w_Lc, ↓w_LcM, ↓turn_nx, wipeL_cons, wipeL_nil, ↓sw0, ↓sw1, ↓sw2, ↓gix2, ↓app0, ↓app1, ↓app2, ↓appB, ↓isL0, ↓isL1, ↓isL2, ↓isLB, ↓isLv, ↓at_head, ↓v0, ↓v1, ↓v2, ↓v3, ↓v4, ↓v5, ↓v6, ↓v7, ↓v8, ↓v9, ↓v10, ↓v11, ↓v12, ↓v13, ↓v14, ↓v15, ↓v16, ↓v17, ↓t0, ↓t1, ↓t2, ↓t3, ↓t4, ↓t5, ↓t6, ↓t7, ↓t8, ↓setAll0, ↓setAll1, List.set_cons_zero, List.set_cons_succ, decide_eq_true_eq, Bool.not_eq_true', decide_eq_false_iff_not]
    refine ⟨rfl, trivial, rfl, by rw [List.length_map]; omega, ⟨rfl, by decide⟩, hlt, by rw [List.map_append]; rfl, _, _, _, rfl⟩
  · rintro r S' ⟨hi, rfl, a, b, c, rfl⟩
    refine ⟨ok_nil _, ?_⟩
    rw [List.length_map, List.take_length]
    simp only [↓w_c, ↓w_e2, ↓we1', ↓p_v, ↓pr0, ↓pr1, ↓pr2, ↓pr3, ↓prA, ↓prB, ↓poL, ↓poD, ↓wB', ↓wt_N, ↓wt_An, ↓wt_Or, ↓wt_Ye, ↓w_Bo, ↓w_An, ↓w_Or, ↓w_If, ↓ws_If, ↓wa_Nil, ↓wa_Cons, ↓wTup', ↓wLst', ↓wLstM', ↓w_Dct, ↓w_DctM, ↓w_B, ↓w_Call, ↓wMt', ↓pl_nil, ↓pl_cons, ↓wc_P, ↓wc_M, ↓wSl', ↓wo_No, ↓woS', ↓wRlv, ↓wRlm, ↓ws_Nil, ↓ws_Cons, ↓then_nx, ↓then_rt, ↓ws_Asg, ↓wg_Nm, ↓wg_Tp, ↓wgs_Nil, ↓wgs_Cons, ↓wgSb', ↓ws_Par, ↓aug0, ↓aug1, ↓aug2, ↓aug3, ↓aug4, ↓aug5, ↓aug6, ↓aug7, ↓aug8, ↓aug9, ↓aug10, ↓aug11, ↓aug12, ↓aug13, ↓aug14, ↓aug15, ↓aug16, ↓aug17, ↓wAugS', ↓ws_Ret, ↓ws_RetT, ↓ws_Drop, ↓ws_For, ↓wSq', ↓wRg', ↓rg1, ↓rg2, ↓rg3, ↓rl1, ↓rl2, ↓rl3, ↓wEn', ↓enV, ↓wZp', ↓zpVV, ↓zpVB, ↓g_add, ↓g_addL, ↓g_addT, ↓g_iadd, ↓g_sub, ↓g_mul, ↓g_mulL, ↓g_fdiv, ↓g_mod, ↓g_pow, ↓g_lt, ↓g_le, ↓g_gt, ↓g_ge, ↓g_eqI, ↓g_neI, ↓g_is, ↓g_isnt, ↓g_ixT, ↓g_ixL, ↓g_ixD, ↓gl_abs, ↓gl_max, ↓gl_min, ↓gl_int, ↓gl_intB, ↓gl_gcd, ↓gl_lenL, ↓gl_lenT, ↓gl_tupL, ↓gl_tupT, ↓gl_lstL, ↓gl_lstT, ↓gl_rep, ↓gl_sortD, ↓gl_sortL, ↓ngI, ↓slL, ↓slT, ↓slS, ↓bo, ↓io, ↓av0, ↓av1, ↓itL, ↓itT, ↓it0, ↓it1, ↓it2, ↓itB, ↓rtB, ↓rt_v, ↓g_ninI, ↓g_inI, ↓w_Lc, ↓w_LcM, ↓turn_nx, wipeL_cons, wipeL_nil, ↓sw0, ↓sw1, ↓sw2, ↓gix2, ↓app0, ↓app1, ↓app2, ↓appB, ↓isL0, ↓isL1, ↓isL2, ↓isLB, ↓isLv, ↓at_head, ↓v0, ↓v1, ↓v2, ↓v3, ↓v4, ↓v5, ↓v6, ↓v7, ↓v8, ↓v9, ↓v10, ↓v11, ↓v12, ↓v13, ↓v14, ↓v15, ↓v16, ↓v17, ↓t0, ↓t1, ↓t2, ↓t3, ↓t4, ↓t5, ↓t6, ↓t7, ↓t8, ↓setAll0, ↓setAll1, List.set_cons_zero, List.set_cons_succ, decide_eq_true_eq, Bool.not_eq_true', decide_eq_false_iff_not]
    exact q
theorem w_timeline {S : Sto} {s : Show} {Q : RV → Sto → Prop} (hn : s.sc.length ≤ 2) (q : Q (.v (.tup (s.tl.map Tm.v))) S) : WC c_timeline [.v s.v] S Q := by
  refine wc_d rfl ?_
  unfold m_timeline d_timeline_1 d_timeline_2 d_timeline_3 Show.v
  show W _ [some (.v (.tup _)), none, none, none, none, none, none, none, none, none, none, none] _ _
  simp only [↓w_c, ↓w_e2, ↓we1', ↓p_v, ↓pr0, ↓pr1, ↓pr2, ↓pr3, ↓prA, ↓prB, ↓poL, ↓poD, ↓wB', ↓wt_N, ↓wt_An, ↓wt_Or, ↓wt_Ye, ↓w_Bo, ↓w_An, ↓w_Or, ↓w_If, ↓ws_If, ↓wa_Nil, ↓wa_Cons, ↓wTup', ↓wLst', ↓wLstM', ↓w_Dct, ↓w_DctM, ↓w_B, ↓w_Call, ↓wMt', ↓pl_nil, ↓pl_cons, ↓wc_P, ↓wc_M, ↓wSl', ↓wo_No, ↓woS', ↓wRlv, ↓wRlm, ↓ws_Nil, ↓ws_Cons, ↓then_nx, ↓then_rt, ↓ws_Asg, ↓wg_Nm, ↓wg_Tp, ↓wgs_Nil, ↓wgs_Cons, ↓wgSb', ↓ws_Par, ↓aug0, ↓aug1, ↓aug2, ↓aug3, ↓aug4, ↓aug5, ↓aug6, ↓aug7, ↓aug8, ↓aug9, ↓aug10, ↓aug11, ↓aug12, ↓aug13, ↓aug14, ↓aug15, ↓aug16, ↓aug17, ↓wAugS', ↓ws_Ret, ↓ws_RetT, ↓ws_Drop, ↓ws_For, ↓wSq', ↓wRg', ↓rg1, ↓rg2, ↓rg3, ↓rl1, ↓rl2, ↓rl3, ↓wEn', ↓enV, ↓wZp', ↓zpVV, ↓zpVB, ↓g_add, ↓g_addL, ↓g_addT, ↓g_iadd, ↓g_sub, ↓g_mul, ↓g_mulL, ↓g_fdiv, ↓g_mod, ↓g_pow, ↓g_lt, ↓g_le, ↓g_gt, ↓g_ge, ↓g_eqI, ↓g_neI, ↓g_is, ↓g_isnt, ↓g_ixT, ↓g_ixL, ↓g_ixD, ↓gl_abs, ↓gl_max, ↓gl_min, ↓gl_int, ↓gl_intB, ↓gl_gcd, ↓gl_lenL, ↓gl_lenT, ↓gl_tupL, ↓gl_tupT, ↓gl_lstL, ↓gl_lstT, ↓gl_rep, ↓gl_sortD, ↓gl_sortL, ↓ngI, ↓slL, ↓slT, ↓slS, ↓bo, ↓io, ↓av0, ↓av1, ↓itL, ↓itT, ↓it0, ↓it1, ↓it2, ↓itB, ↓rtB, ↓rt_v, ↓g_ninI, ↓g_inI, ↓w_Lc, ↓w_LcM, ↓turn_nx, wipeL_cons, wipeL_nil, ↓sw0, ↓sw1, ↓sw2, ↓gix2, ↓app0, ↓app1, ↓app2, ↓appB, ↓isL0, ↓isL1, ↓isL2, ↓isLB, ↓isLv, ↓at_head, ↓v0, ↓v1, ↓v2, ↓v3, ↓v4, ↓v5, ↓v6, ↓v7, ↓v8, ↓v9, ↓v10, ↓v11, ↓v12, ↓v13, ↓v14, ↓v15, ↓v16, ↓v17, ↓t0, ↓t1, ↓t2, ↓t3, ↓t4, ↓t5, ↓t6, ↓t7, ↓t8, ↓setAll0, ↓setAll1, List.set_cons_zero, List.set_cons_succ, decide_eq_true_eq, Bool.not_eq_true', decide_eq_false_iff_not]
  refine ⟨rfl, rfl, w_hold ?_⟩
  try (simp only [↓w_c, ↓w_e2, ↓we1', ↓p_v, ↓pr0, ↓pr1, ↓pr2, ↓pr3, ↓prA, ↓prB, ↓poL, ↓poD, ↓wB', ↓wt_N, ↓wt_An, ↓wt_Or, ↓wt_Ye, ↓w_Bo, ↓w_An, ↓w_Or, ↓w_If, ↓ws_If, ↓wa_Nil, ↓wa_Cons, ↓wTup', ↓wLst', ↓wLstM', ↓w_Dct, ↓w_DctM, ↓w_B, ↓w_Call, ↓wMt', ↓pl_nil, ↓pl_cons, ↓wc_P, ↓wc_M, ↓wSl', ↓wo_No, ↓woS', ↓wRlv, ↓wRlm, ↓ws_Nil, ↓ws_Cons, ↓then_nx, ↓then_rt, ↓ws_Asg, ↓wg_Nm, ↓wg_Tp, ↓wgs_Nil, ↓wgs_Cons, ↓wgSb', ↓ws_Par, ↓aug0, ↓aug1, ↓aug2, ↓aug3, ↓aug4, ↓aug5, ↓aug6, ↓aug7, ↓aug8, ↓aug9, ↓aug10, ↓aug11, ↓aug12, ↓aug13, ↓aug14, ↓aug15, ↓aug16, ↓aug17, ↓wAugS', ↓ws_Ret, ↓ws_RetT, ↓ws_Drop, ↓ws_For, ↓wSq', ↓wRg', ↓rg1, ↓rg2, ↓rg3, ↓rl1, ↓rl2, ↓rl3, ↓wEn', ↓enV, ↓wZp', ↓zpVV, ↓zpVB, ↓g_add, ↓g_addL, ↓g_addT, ↓g_iadd, ↓g_sub, ↓g_mul, ↓g_mulL, ↓g_fdiv, ↓g_mod, ↓g_pow, ↓g_lt, ↓g_le, ↓g_gt, ↓g_ge, ↓g_eqI, ↓g_neI, ↓g_is, ↓g_isnt, ↓g_ixT, ↓g_ixL, ↓g_ixD, ↓gl_abs, ↓gl_max, ↓gl_min, ↓gl_int, ↓gl_intB, ↓gl_gcd, ↓gl_lenL, ↓gl_lenT, ↓gl_tupL, ↓gl_tupT, ↓gl_lstL, ↓gl_lstT, ↓gl_rep, ↓gl_sortD, ↓gl_sortL, ↓ngI, ↓slL, ↓slT, ↓slS, ↓bo, ↓io, ↓av0, ↓av1, ↓itL, ↓itT, ↓it0, ↓it1, ↓it2, ↓itB, ↓rtB, ↓rt_v, ↓g_ninI, ↓g_inI, ↓w_Lc, ↓w_LcM, ↓turn_nx, wipeL_cons, wipeL_nil, ↓sw0, ↓sw1, ↓sw2, ↓gix2, ↓app0, ↓app1, ↓app2, ↓appB, ↓isL0, ↓isL1, ↓isL2, ↓isLB, ↓isLv, ↓at_head, ↓v0, ↓v1, ↓v2, ↓v3, ↓v4, ↓v5, ↓v6, ↓v7, ↓v8, ↓v9, ↓v10, ↓v11, ↓v12, ↓v13, ↓v14, ↓v15, ↓v16, ↓v17, ↓t0, ↓t1, ↓t2, ↓t3, ↓t4, ↓t5, ↓t6, ↓t7, ↓t8, ↓setAll0, ↓setAll1, List.set_cons_zero, List.set_cons_succ, decide_eq_true_eq, Bool.not_eq_true', decide_eq_false_iff_not])
  refine ⟨by decide, ⟨rfl, by decide⟩, ?_⟩
  refine wf_inv (fun i r S' => i ≤ s.sc.length ∧ S' = S ++ [.lst ((tms 0 s.b.need (s.sc.take i)).map Tm.v)] ∧ ∃ a b c d e f g h : Option RV, r = [e, f, g, h, some (.v (.tup (s.sc.map Scene.v))), some (.v (.int (endO 0 s.b.need (s.sc.take i)).1)), some (.v (.int (endO 0 s.b.need (s.sc.take i)).2)), some (.ref S.length), a, b, c, d]) ⟨Nat.zero_le _, rfl, _, _, _, _, _, _, _, _, rfl⟩ ?_ ?_
  · rintro i x r S' hx ⟨hi, rfl, a, b, c, d, e, f, g, h, rfl⟩
    refine ⟨ok_nil _, ?_⟩
    rw [List.getElem?_map] at hx
    obtain ⟨q, hq, rfl⟩ := Option.map_eq_some_iff.mp hx
    have hlt := (List.getElem?_eq_some_iff.mp hq).1
    have e1 := tms_length 0 s.b.need (s.sc.take i)
    rw [List.length_take] at e1
    rw [take_snoc hq, tms_snoc, endO_snoc]
    generalize endO 0 s.b.need (s.sc.take i) = eo at *
    generalize tms 0 s.b.need (s.sc.take i) = ts at *
    unfold b_timeline_1 b_timeline_1_1 b_timeline_1_2 Scene.v
    simp only [↓w_c, ↓w_e2, ↓we1', ↓p_v, ↓pr0, ↓pr1, ↓pr2, ↓pr3, ↓prA, ↓prB, ↓poL, ↓poD, ↓wB', ↓wt_N, ↓wt_An, ↓wt_Or, ↓wt_Ye, ↓w_Bo, ↓w_An, ↓w_Or, ↓w_If, ↓ws_If, ↓wa_Nil, ↓wa_Cons, ↓wTup', ↓wLst', ↓wLstM', ↓w_Dct, ↓w_DctM, ↓w_B, ↓w_Call, ↓wMt', ↓pl_nil, ↓pl_cons, ↓wc_P, ↓wc_M, ↓wSl', ↓wo_No, ↓woS', ↓wRlv, ↓wRlm, ↓ws_Nil, ↓ws_Cons, ↓then_nx, ↓then_rt, ↓ws_Asg, ↓wg_Nm, ↓wg_Tp, ↓wgs_Nil, ↓wgs_Cons, ↓wgSb', ↓ws_Par, ↓aug0, ↓aug1, ↓aug2, ↓aug3, ↓aug4, ↓aug5, ↓aug6, ↓aug7, ↓aug8, ↓aug9, ↓aug10, ↓aug11, ↓aug12, ↓aug13, ↓aug14, ↓aug15, ↓aug16, ↓aug17, ↓wAugS', ↓ws_Ret, ↓ws_RetT, ↓ws_Drop, ↓ws_For, ↓wSq', ↓wRg', ↓rg1, ↓rg2, ↓rg3, ↓rl1, ↓rl2, ↓rl3, ↓wEn', ↓enV, ↓wZp', ↓zpVV, ↓zpVB, ↓g_add, ↓g_addL, ↓g_addT, ↓g_iadd, ↓g_sub, ↓g_mul, ↓g_mulL, ↓g_fdiv, ↓g_mod, ↓g_pow, ↓g_lt, ↓g_le, ↓g_gt, ↓g_ge, ↓g_eqI, ↓g_neI, ↓g_is, ↓g_isnt, ↓g_ixT, ↓g_ixL, ↓g_ixD, ↓gl_abs, ↓gl_max, ↓gl_min, ↓gl_int, ↓gl_intB, ↓gl_gcd, ↓gl_lenL, ↓gl_lenT, ↓gl_tupL, ↓gl_tupT, ↓gl_lstL, ↓gl_lstT, ↓gl_rep, ↓gl_sortD, ↓gl_sortL, ↓ngI, ↓slL, ↓slT, ↓slS, ↓bo, ↓io, ↓av0, ↓av1, ↓itL, ↓itT, ↓it0, ↓it1, ↓it2, ↓itB, ↓rtB, ↓rt_v, ↓g_ninI, ↓g_inI, ↓w_Lc, ↓w_LcM, ↓turn_nx, wipeL_cons, wipeL_nil, ↓sw0, ↓sw1, ↓sw2, ↓gix2, ↓app0, ↓app1, ↓app2, ↓appB, ↓isL0, ↓isL1, ↓isL2, ↓isLB, ↓isLv, ↓at_head, ↓v0, ↓v1, ↓v2, ↓v3, ↓v4, ↓v5, ↓v6, ↓v7, ↓v8, ↓v9, ↓v10, ↓v11, ↓v12, ↓v13, ↓v14, ↓v15, ↓v16, ↓v17, ↓t0, ↓t1, ↓t2, ↓t3, ↓t4, ↓t5, ↓t6, ↓t7, ↓t8, ↓setAll0, ↓setAll1, List.set_cons_zero, List.set_cons_succ, decide_eq_true_eq, Bool.not_eq_true', decide_eq_false_iff_not]
    refine ⟨rfl, trivial, rfl, by rw [List.length_map]; omega, ⟨rfl, by decide⟩, hlt, by rw [List.map_append]; rfl, _, _, _, _, _, _, _, _, rfl⟩
  · rintro r S' ⟨hi, rfl, a, b, c, d, e, f, g, h, rfl⟩
    refine ⟨ok_nil _, ?_⟩
    rw [List.length_map, List.take_length]
    simp only [↓w_c, ↓w_e2, ↓we1', ↓p_v, ↓pr0, ↓pr1, ↓pr2, ↓pr3, ↓prA, ↓prB, ↓poL, ↓poD, ↓wB', ↓wt_N, ↓wt_An, ↓wt_Or, ↓wt_Ye, ↓w_Bo, ↓w_An, ↓w_Or, ↓w_If, ↓ws_If, ↓wa_Nil, ↓wa_Cons, ↓wTup', ↓wLst', ↓wLstM', ↓w_Dct, ↓w_DctM, ↓w_B, ↓w_Call, ↓wMt', ↓pl_nil, ↓pl_cons, ↓wc_P, ↓wc_M, ↓wSl', ↓wo_No, ↓woS', ↓wRlv, ↓wRlm, ↓ws_Nil, ↓ws_Cons, ↓then_nx, ↓then_rt, ↓ws_Asg, ↓wg_Nm, ↓wg_Tp, ↓wgs_Nil, ↓wgs_Cons, ↓wgSb', ↓ws_Par, ↓aug0, ↓aug1, ↓aug2, ↓aug3, ↓aug4, ↓aug5, ↓aug6, ↓aug7, ↓aug8, ↓aug9, ↓aug10, ↓aug11, ↓aug12, ↓aug13, ↓aug14, ↓aug15, ↓aug16, ↓aug17, ↓wAugS', ↓ws_Ret, ↓ws_RetT, ↓ws_Drop, ↓ws_For, ↓wSq', ↓wRg', ↓rg1, ↓rg2, ↓rg3, ↓rl1, ↓rl2, ↓rl3, ↓wEn', ↓enV, ↓wZp', ↓zpVV, ↓zpVB, ↓g_add, ↓g_addL, ↓g_addT, ↓g_iadd, ↓g_sub, ↓g_mul, ↓g_mulL, ↓g_fdiv, ↓g_mod, ↓g_pow, ↓g_lt, ↓g_le, ↓g_gt, ↓g_ge, ↓g_eqI, ↓g_neI, ↓g_is, ↓g_isnt, ↓g_ixT, ↓g_ixL, ↓g_ixD, ↓gl_abs, ↓gl_max, ↓gl_min, ↓gl_int, ↓gl_intB, ↓gl_gcd, ↓gl_lenL, ↓gl_lenT, ↓gl_tupL, ↓gl_tupT, ↓gl_lstL, ↓gl_lstT, ↓gl_rep, ↓gl_sortD, ↓gl_sortL, ↓ngI, ↓slL, ↓slT, ↓slS, ↓bo, ↓io, ↓av0, ↓av1, ↓itL, ↓itT, ↓it0, ↓it1, ↓it2, ↓itB, ↓rtB, ↓rt_v, ↓g_ninI, ↓g_inI, ↓w_Lc, ↓w_LcM, ↓turn_nx, wipeL_cons, wipeL_nil, ↓sw0, ↓sw1, ↓sw2, ↓gix2, ↓app0, ↓app1, ↓app2, ↓appB, ↓isL0, ↓isL1, ↓isL2, ↓isLB, ↓isLv, ↓at_head, ↓v0, ↓v1, ↓v2, ↓v3, ↓v4, ↓v5, ↓v6, ↓v7, ↓v8, ↓v9, ↓v10, ↓v11, ↓v12, ↓v13, ↓v14, ↓v15, ↓v16, ↓v17, ↓t0, ↓t1, ↓t2, ↓t3, ↓t4, ↓t5, ↓t6, ↓t7, ↓t8, ↓setAll0, ↓setAll1, List.set_cons_zero, List.set_cons_succ, decide_eq_true_eq, Bool.not_eq_true', decide_eq_false_iff_not]
    refine ⟨by simp, ?_⟩
    rw [show ∀ z : SO, List.take S.length (S ++ [z]) = S from fun z => by simp]
    exact q
end K61

namespace K61
open PySem PySem.Spec PyProof.Rows L2 Dn
structure Fr where
  (n d : Int)
def Fr.v (f : Fr) : PV := .tup [.int f.n, .int f.d]
/-- a fraction in lowest terms -/
def ovr (n d : Int) : Fr := ⟨n / ((Nat.gcd n.natAbs d.natAbs : Nat) : Int), d / ((Nat.gcd n.natAbs d.natAbs : Nat) : Int)⟩
structure Fr.Ok (f : Fr) : Prop where
  n : f.n.natAbs ≤ 2 ^ 40
  d : 1 ≤ f.d ∧ f.d ≤ 1000
theorem gcd_pos {n d : Int} (h : 0 < d) : 0 < Nat.gcd n.natAbs d.natAbs := Nat.gcd_pos_of_pos_right _ (by omega)
theorem gcd_le {n d : Int} (h : 0 < d) : (Nat.gcd n.natAbs d.natAbs : Nat) ≤ d.natAbs := Nat.le_of_dvd (by omega) (Nat.gcd_dvd_right _ _)
theorem ovr_ok {n d : Int} (hn : n.natAbs ≤ 2 ^ 40) (h1 : 1 ≤ d) (h2 : d ≤ 1000) : (ovr n d).Ok := by
  have hp := gcd_pos (n := n) (d := d) (by omega)
  have hl := gcd_le (n := n) (d := d) (by omega)
  have hdv : ((Nat.gcd n.natAbs d.natAbs : Nat) : Int) ∣ d := by
    exact Int.ofNat_dvd_left.mpr (Nat.gcd_dvd_right _ _)
  unfold ovr
  generalize Nat.gcd n.natAbs d.natAbs = g at *
  refine ⟨?_, ?_, ?_⟩
  · show (n / (g : Int)).natAbs ≤ 2 ^ 40
    exact Nat.le_trans (Int.natAbs_ediv_le_natAbs n g) hn
  · show 1 ≤ d / (g : Int)
    rw [Int.le_ediv_iff_mul_le (by omega)]
    omega
  · show d / (g : Int) ≤ 1000
    have := Int.ediv_le_self (a := d) (g : Int) (by omega)
    omega
theorem w_over {S : Sto} {n d : Int} {Q : RV → Sto → Prop} (h1 : 1 ≤ d) (h2 : d < 2 ^ 59) (q : Q (.v (ovr n d).v) S) : WC c__law_over [.v (.int n), .v (.int d)] S Q := by
  refine wc_d rfl ?_
  unfold m__law_over d__law_over_1 d__law_over_2 d__law_over_3
  show W _ [some (.v (.int n)), some (.v (.int d)), none, none] _ _
  simp only [↓w_c, ↓w_e2, ↓we1', ↓p_v, ↓pr0, ↓pr1, ↓pr2, ↓pr3, ↓prA, ↓prB, ↓poL, ↓poD, ↓wB', ↓wt_N, ↓wt_An, ↓wt_Or, ↓wt_Ye, ↓w_Bo, ↓w_An, ↓w_Or, ↓w_If, ↓ws_If, ↓wa_Nil, ↓wa_Cons, ↓wTup', ↓wLst', ↓wLstM', ↓w_Dct, ↓w_DctM, ↓w_B, ↓w_Call, ↓wMt', ↓pl_nil, ↓pl_cons, ↓wc_P, ↓wc_M, ↓wSl', ↓wo_No, ↓woS', ↓wRlv, ↓wRlm, ↓ws_Nil, ↓ws_Cons, ↓then_nx, ↓then_rt, ↓ws_Asg, ↓wg_Nm, ↓wg_Tp, ↓wgs_Nil, ↓wgs_Cons, ↓wgSb', ↓ws_Par, ↓aug0, ↓aug1, ↓aug2, ↓aug3, ↓aug4, ↓aug5, ↓aug6, ↓aug7, ↓aug8, ↓aug9, ↓aug10, ↓aug11, ↓aug12, ↓aug13, ↓aug14, ↓aug15, ↓aug16, ↓aug17, ↓wAugS', ↓ws_Ret, ↓ws_RetT, ↓ws_Drop, ↓ws_For, ↓wSq', ↓wRg', ↓rg1, ↓rg2, ↓rg3, ↓rl1, ↓rl2, ↓rl3, ↓wEn', ↓enV, ↓wZp', ↓zpVV, ↓zpVB, ↓g_add, ↓g_addL, ↓g_addT, ↓g_iadd, ↓g_sub, ↓g_mul, ↓g_mulL, ↓g_fdiv, ↓g_mod, ↓g_pow, ↓g_lt, ↓g_le, ↓g_gt, ↓g_ge, ↓g_eqI, ↓g_neI, ↓g_is, ↓g_isnt, ↓g_ixT, ↓g_ixL, ↓g_ixD, ↓gl_abs, ↓gl_max, ↓gl_min, ↓gl_int, ↓gl_intB, ↓gl_gcd, ↓gl_lenL, ↓gl_lenT, ↓gl_tupL, ↓gl_tupT, ↓gl_lstL, ↓gl_lstT, ↓gl_rep, ↓gl_sortD, ↓gl_sortL, ↓ngI, ↓slL, ↓slT, ↓slS, ↓bo, ↓io, ↓av0, ↓av1, ↓itL, ↓itT, ↓it0, ↓it1, ↓it2, ↓itB, ↓rtB, ↓rt_v, ↓g_ninI, ↓g_inI, ↓w_Lc, ↓w_LcM, ↓turn_nx, wipeL_cons, wipeL_nil, ↓sw0, ↓sw1, ↓sw2, ↓gix2, ↓app0, ↓app1, ↓app2, ↓appB, ↓isL0, ↓isL1, ↓isL2, ↓isLB, ↓isLv, ↓at_head, ↓v0, ↓v1, ↓v2, ↓v3, ↓v4, ↓v5, ↓v6, ↓v7, ↓v8, ↓v9, ↓v10, ↓v11, ↓v12, ↓v13, ↓v14, ↓v15, ↓v16, ↓v17, ↓t0, ↓t1, ↓t2, ↓t3, ↓t4, ↓t5, ↓t6, ↓t7, ↓t8, ↓setAll0, ↓setAll1, List.set_cons_zero, List.set_cons_succ, decide_eq_true_eq, Bool.not_eq_true', decide_eq_false_iff_not]
  have hp := gcd_pos (n := n) (d := d) (by omega)
  have hl := gcd_le (n := n) (d := d) (by omega)
  refine ⟨⟨rfl, by decide⟩, ?_⟩
  refine ww_inv (fun m r S' => S' = S ∧ ∃ a b : Nat, m = b ∧ Nat.gcd a b = Nat.gcd n.natAbs d.natAbs ∧ r = [some (.v (.int n)), some (.v (.int d)), some (.v (.int a)), some (.v (.int b))]) d.natAbs ?_ ?_
  · refine ⟨rfl, n.natAbs, d.natAbs, rfl, rfl, ?_⟩
    have ha : ∀ i : Int, (if i < 0 then -i else i) = (i.natAbs : Int) := by
      intro i
      split <;> omega
    rw [ha, ha]
  · rintro m r S' ⟨rfl, a, b, rfl, hg, rfl⟩
    unfold b__law_over_1
    simp only [↓w_c, ↓w_e2, ↓we1', ↓p_v, ↓pr0, ↓pr1, ↓pr2, ↓pr3, ↓prA, ↓prB, ↓poL, ↓poD, ↓wB', ↓wt_N, ↓wt_An, ↓wt_Or, ↓wt_Ye, ↓w_Bo, ↓w_An, ↓w_Or, ↓w_If, ↓ws_If, ↓wa_Nil, ↓wa_Cons, ↓wTup', ↓wLst', ↓wLstM', ↓w_Dct, ↓w_DctM, ↓w_B, ↓w_Call, ↓wMt', ↓pl_nil, ↓pl_cons, ↓wc_P, ↓wc_M, ↓wSl', ↓wo_No, ↓woS', ↓wRlv, ↓wRlm, ↓ws_Nil, ↓ws_Cons, ↓then_nx, ↓then_rt, ↓ws_Asg, ↓wg_Nm, ↓wg_Tp, ↓wgs_Nil, ↓wgs_Cons, ↓wgSb', ↓ws_Par, ↓aug0, ↓aug1, ↓aug2, ↓aug3, ↓aug4, ↓aug5, ↓aug6, ↓aug7, ↓aug8, ↓aug9, ↓aug10, ↓aug11, ↓aug12, ↓aug13, ↓aug14, ↓aug15, ↓aug16, ↓aug17, ↓wAugS', ↓ws_Ret, ↓ws_RetT, ↓ws_Drop, ↓ws_For, ↓wSq', ↓wRg', ↓rg1, ↓rg2, ↓rg3, ↓rl1, ↓rl2, ↓rl3, ↓wEn', ↓enV, ↓wZp', ↓zpVV, ↓zpVB, ↓g_add, ↓g_addL, ↓g_addT, ↓g_iadd, ↓g_sub, ↓g_mul, ↓g_mulL, ↓g_fdiv, ↓g_mod, ↓g_pow, ↓g_lt, ↓g_le, ↓g_gt, ↓g_ge, ↓g_eqI, ↓g_neI, ↓g_is, ↓g_isnt, ↓g_ixT, ↓g_ixL, ↓g_ixD, ↓gl_abs, ↓gl_max, ↓gl_min, ↓gl_int, ↓gl_intB, ↓gl_gcd, ↓gl_lenL, ↓gl_lenT, ↓gl_tupL, ↓gl_tupT, ↓gl_lstL, ↓gl_lstT, ↓gl_rep, ↓gl_sortD, ↓gl_sortL, ↓ngI, ↓slL, ↓slT, ↓slS, ↓bo, ↓io, ↓av0, ↓av1, ↓itL, ↓itT, ↓it0, ↓it1, ↓it2, ↓itB, ↓rtB, ↓rt_v, ↓g_ninI, ↓g_inI, ↓w_Lc, ↓w_LcM, ↓turn_nx, wipeL_cons, wipeL_nil, ↓sw0, ↓sw1, ↓sw2, ↓gix2, ↓app0, ↓app1, ↓app2, ↓appB, ↓isL0, ↓isL1, ↓isL2, ↓isLB, ↓isLv, ↓at_head, ↓v0, ↓v1, ↓v2, ↓v3, ↓v4, ↓v5, ↓v6, ↓v7, ↓v8, ↓v9, ↓v10, ↓v11, ↓v12, ↓v13, ↓v14, ↓v15, ↓v16, ↓v17, ↓t0, ↓t1, ↓t2, ↓t3, ↓t4, ↓t5, ↓t6, ↓t7, ↓t8, ↓setAll0, ↓setAll1, List.set_cons_zero, List.set_cons_succ, decide_eq_true_eq, Bool.not_eq_true', decide_eq_false_iff_not]
    by_cases hm : (0 : Int) < m
    · rw [if_pos hm]
      refine ⟨hm, ⟨rfl, by decide⟩, a % m, Nat.mod_lt _ (by omega), trivial, m, a % m, rfl, ?_, rfl⟩
      rw [← hg, Nat.gcd_comm a m, Nat.gcd_rec m a, Nat.gcd_comm]
    · rw [if_neg hm, if_pos (show 0 < d by omega)]
      have e : a = Nat.gcd n.natAbs d.natAbs := by
        rw [← hg, show m = 0 by omega, Nat.gcd_zero_right]
      have e1 : divOk (a : Int) = true := div_ok (by omega) (by omega)
      refine ⟨e1, e1, rfl, end0 ?_⟩
      rw [e]
      exact q
theorem w_reduced {S : Sto} {n d : Int} {Q : RV → Sto → Prop} (h1 : 1 ≤ d) (h2 : d < 2 ^ 59) (q : Q (.v (ovr n d).v) S) : WC c_reduced [.v (.int n), .v (.int d)] S Q := by
  refine wc_d rfl ?_
  unfold m_reduced d_reduced_1
  show W _ [some (.v (.int n)), some (.v (.int d)), none] _ _
  simp only [↓w_c, ↓w_e2, ↓we1', ↓p_v, ↓pr0, ↓pr1, ↓pr2, ↓pr3, ↓prA, ↓prB, ↓poL, ↓poD, ↓wB', ↓wt_N, ↓wt_An, ↓wt_Or, ↓wt_Ye, ↓w_Bo, ↓w_An, ↓w_Or, ↓w_If, ↓ws_If, ↓wa_Nil, ↓wa_Cons, ↓wTup', ↓wLst', ↓wLstM', ↓w_Dct, ↓w_DctM, ↓w_B, ↓w_Call, ↓wMt', ↓pl_nil, ↓pl_cons, ↓wc_P, ↓wc_M, ↓wSl', ↓wo_No, ↓woS', ↓wRlv, ↓wRlm, ↓ws_Nil, ↓ws_Cons, ↓then_nx, ↓then_rt, ↓ws_Asg, ↓wg_Nm, ↓wg_Tp, ↓wgs_Nil, ↓wgs_Cons, ↓wgSb', ↓ws_Par, ↓aug0, ↓aug1, ↓aug2, ↓aug3, ↓aug4, ↓aug5, ↓aug6, ↓aug7, ↓aug8, ↓aug9, ↓aug10, ↓aug11, ↓aug12, ↓aug13, ↓aug14, ↓aug15, ↓aug16, ↓aug17, ↓wAugS', ↓ws_Ret, ↓ws_RetT, ↓ws_Drop, ↓ws_For, ↓wSq', ↓wRg', ↓rg1, ↓rg2, ↓rg3, ↓rl1, ↓rl2, ↓rl3, ↓wEn', ↓enV, ↓wZp', ↓zpVV, ↓zpVB, ↓g_add, ↓g_addL, ↓g_addT, ↓g_iadd, ↓g_sub, ↓g_mul, ↓g_mulL, ↓g_fdiv, ↓g_mod, ↓g_pow, ↓g_lt, ↓g_le, ↓g_gt, ↓g_ge, ↓g_eqI, ↓g_neI, ↓g_is, ↓g_isnt, ↓g_ixT, ↓g_ixL, ↓g_ixD, ↓gl_abs, ↓gl_max, ↓gl_min, ↓gl_int, ↓gl_intB, ↓gl_gcd, ↓gl_lenL, ↓gl_lenT, ↓gl_tupL, ↓gl_tupT, ↓gl_lstL, ↓gl_lstT, ↓gl_rep, ↓gl_sortD, ↓gl_sortL, ↓ngI, ↓slL, ↓slT, ↓slS, ↓bo, ↓io, ↓av0, ↓av1, ↓itL, ↓itT, ↓it0, ↓it1, ↓it2, ↓itB, ↓rtB, ↓rt_v, ↓g_ninI, ↓g_inI, ↓w_Lc, ↓w_LcM, ↓turn_nx, wipeL_cons, wipeL_nil, ↓sw0, ↓sw1, ↓sw2, ↓gix2, ↓app0, ↓app1, ↓app2, ↓appB, ↓isL0, ↓isL1, ↓isL2, ↓isLB, ↓isLv, ↓at_head, ↓v0, ↓v1, ↓v2, ↓v3, ↓v4, ↓v5, ↓v6, ↓v7, ↓v8, ↓v9, ↓v10, ↓v11, ↓v12, ↓v13, ↓v14, ↓v15, ↓v16, ↓v17, ↓t0, ↓t1, ↓t2, ↓t3, ↓t4, ↓t5, ↓t6, ↓t7, ↓t8, ↓setAll0, ↓setAll1, List.set_cons_zero, List.set_cons_succ, decide_eq_true_eq, Bool.not_eq_true', decide_eq_false_iff_not]
  have hp := gcd_pos (n := n) (d := d) (by omega)
  have hl := gcd_le (n := n) (d := d) (by omega)
  rw [if_pos (show 0 < d by omega)]
  try (simp only [↓w_c, ↓w_e2, ↓we1', ↓p_v, ↓pr0, ↓pr1, ↓pr2, ↓pr3, ↓prA, ↓prB, ↓poL, ↓poD, ↓wB', ↓wt_N, ↓wt_An, ↓wt_Or, ↓wt_Ye, ↓w_Bo, ↓w_An, ↓w_Or, ↓w_If, ↓ws_If, ↓wa_Nil, ↓wa_Cons, ↓wTup', ↓wLst', ↓wLstM', ↓w_Dct, ↓w_DctM, ↓w_B, ↓w_Call, ↓wMt', ↓pl_nil, ↓pl_cons, ↓wc_P, ↓wc_M, ↓wSl', ↓wo_No, ↓woS', ↓wRlv, ↓wRlm, ↓ws_Nil, ↓ws_Cons, ↓then_nx, ↓then_rt, ↓ws_Asg, ↓wg_Nm, ↓wg_Tp, ↓wgs_Nil, ↓wgs_Cons, ↓wgSb', ↓ws_Par, ↓aug0, ↓aug1, ↓aug2, ↓aug3, ↓aug4, ↓aug5, ↓aug6, ↓aug7, ↓aug8, ↓aug9, ↓aug10, ↓aug11, ↓aug12, ↓aug13, ↓aug14, ↓aug15, ↓aug16, ↓aug17, ↓wAugS', ↓ws_Ret, ↓ws_RetT, ↓ws_Drop, ↓ws_For, ↓wSq', ↓wRg', ↓rg1, ↓rg2, ↓rg3, ↓rl1, ↓rl2, ↓rl3, ↓wEn', ↓enV, ↓wZp', ↓zpVV, ↓zpVB, ↓g_add, ↓g_addL, ↓g_addT, ↓g_iadd, ↓g_sub, ↓g_mul, ↓g_mulL, ↓g_fdiv, ↓g_mod, ↓g_pow, ↓g_lt, ↓g_le, ↓g_gt, ↓g_ge, ↓g_eqI, ↓g_neI, ↓g_is, ↓g_isnt, ↓g_ixT, ↓g_ixL, ↓g_ixD, ↓gl_abs, ↓gl_max, ↓gl_min, ↓gl_int, ↓gl_intB, ↓gl_gcd, ↓gl_lenL, ↓gl_lenT, ↓gl_tupL, ↓gl_tupT, ↓gl_lstL, ↓gl_lstT, ↓gl_rep, ↓gl_sortD, ↓gl_sortL, ↓ngI, ↓slL, ↓slT, ↓slS, ↓bo, ↓io, ↓av0, ↓av1, ↓itL, ↓itT, ↓it0, ↓it1, ↓it2, ↓itB, ↓rtB, ↓rt_v, ↓g_ninI, ↓g_inI, ↓w_Lc, ↓w_LcM, ↓turn_nx, wipeL_cons, wipeL_nil, ↓sw0, ↓sw1, ↓sw2, ↓gix2, ↓app0, ↓app1, ↓app2, ↓appB, ↓isL0, ↓isL1, ↓isL2, ↓isLB, ↓isLv, ↓at_head, ↓v0, ↓v1, ↓v2, ↓v3, ↓v4, ↓v5, ↓v6, ↓v7, ↓v8, ↓v9, ↓v10, ↓v11, ↓v12, ↓v13, ↓v14, ↓v15, ↓v16, ↓v17, ↓t0, ↓t1, ↓t2, ↓t3, ↓t4, ↓t5, ↓t6, ↓t7, ↓t8, ↓setAll0, ↓setAll1, List.set_cons_zero, List.set_cons_succ, decide_eq_true_eq, Bool.not_eq_true', decide_eq_false_iff_not])
  have e1 : divOk ((Nat.gcd n.natAbs d.natAbs : Nat) : Int) = true := div_ok (by omega) (by omega)
  exact ⟨e1, e1, rfl, end0 q⟩
def Fr.sum (x y : Fr) : Fr := ovr (x.n * y.d + y.n * x.d) (x.d * y.d)
theorem mulok {x y : Fr} (hx : x.Ok) (hy : y.Ok) : mulOk x.n y.d = true ∧ mulOk y.n x.d = true ∧ mulOk x.d y.d = true := by
  have a := hx.d
  have b := hy.d
  exact ⟨mul_r (by omega) (by omega), mul_r (by omega) (by omega), mul_r (by omega) (by omega)⟩
theorem den {x y : Fr} (hx : x.Ok) (hy : y.Ok) : 1 ≤ x.d * y.d ∧ x.d * y.d < 2 ^ 59 := by
  have a := hx.d
  have b := hy.d
  have p := Int.mul_pos (show 0 < x.d by omega) (show 0 < y.d by omega)
  have r : x.d * y.d ≤ 1000 * 1000 := Int.mul_le_mul a.2 b.2 (by omega) (by decide)
  omega
theorem w_ladd {S : Sto} {x y : Fr} {Q : RV → Sto → Prop} (hx : x.Ok) (hy : y.Ok) (q : Q (.v (x.sum y).v) S) : WC c__law_added [.v x.v, .v y.v] S Q := by
  refine wc_d rfl ?_
  unfold m__law_added Fr.v
  show W _ [some (.v (.tup _)), some (.v (.tup _))] _ _
  obtain ⟨m1, m2, m3⟩ := mulok hx hy
  simp only [↓w_c, ↓w_e2, ↓we1', ↓p_v, ↓pr0, ↓pr1, ↓pr2, ↓pr3, ↓prA, ↓prB, ↓poL, ↓poD, ↓wB', ↓wt_N, ↓wt_An, ↓wt_Or, ↓wt_Ye, ↓w_Bo, ↓w_An, ↓w_Or, ↓w_If, ↓ws_If, ↓wa_Nil, ↓wa_Cons, ↓wTup', ↓wLst', ↓wLstM', ↓w_Dct, ↓w_DctM, ↓w_B, ↓w_Call, ↓wMt', ↓pl_nil, ↓pl_cons, ↓wc_P, ↓wc_M, ↓wSl', ↓wo_No, ↓woS', ↓wRlv, ↓wRlm, ↓ws_Nil, ↓ws_Cons, ↓then_nx, ↓then_rt, ↓ws_Asg, ↓wg_Nm, ↓wg_Tp, ↓wgs_Nil, ↓wgs_Cons, ↓wgSb', ↓ws_Par, ↓aug0, ↓aug1, ↓aug2, ↓aug3, ↓aug4, ↓aug5, ↓aug6, ↓aug7, ↓aug8, ↓aug9, ↓aug10, ↓aug11, ↓aug12, ↓aug13, ↓aug14, ↓aug15, ↓aug16, ↓aug17, ↓wAugS', ↓ws_Ret, ↓ws_RetT, ↓ws_Drop, ↓ws_For, ↓wSq', ↓wRg', ↓rg1, ↓rg2, ↓rg3, ↓rl1, ↓rl2, ↓rl3, ↓wEn', ↓enV, ↓wZp', ↓zpVV, ↓zpVB, ↓g_add, ↓g_addL, ↓g_addT, ↓g_iadd, ↓g_sub, ↓g_mul, ↓g_mulL, ↓g_fdiv, ↓g_mod, ↓g_pow, ↓g_lt, ↓g_le, ↓g_gt, ↓g_ge, ↓g_eqI, ↓g_neI, ↓g_is, ↓g_isnt, ↓g_ixT, ↓g_ixL, ↓g_ixD, ↓gl_abs, ↓gl_max, ↓gl_min, ↓gl_int, ↓gl_intB, ↓gl_gcd, ↓gl_lenL, ↓gl_lenT, ↓gl_tupL, ↓gl_tupT, ↓gl_lstL, ↓gl_lstT, ↓gl_rep, ↓gl_sortD, ↓gl_sortL, ↓ngI, ↓slL, ↓slT, ↓slS, ↓bo, ↓io, ↓av0, ↓av1, ↓itL, ↓itT, ↓it0, ↓it1, ↓it2, ↓itB, ↓rtB, ↓rt_v, ↓g_ninI, ↓g_inI, ↓w_Lc, ↓w_LcM, ↓turn_nx, wipeL_cons, wipeL_nil, ↓sw0, ↓sw1, ↓sw2, ↓gix2, ↓app0, ↓app1, ↓app2, ↓appB, ↓isL0, ↓isL1, ↓isL2, ↓isLB, ↓isLv, ↓at_head, ↓v0, ↓v1, ↓v2, ↓v3, ↓v4, ↓v5, ↓v6, ↓v7, ↓v8, ↓v9, ↓v10, ↓v11, ↓v12, ↓v13, ↓v14, ↓v15, ↓v16, ↓v17, ↓t0, ↓t1, ↓t2, ↓t3, ↓t4, ↓t5, ↓t6, ↓t7, ↓t8, ↓setAll0, ↓setAll1, List.set_cons_zero, List.set_cons_succ, decide_eq_true_eq, Bool.not_eq_true', decide_eq_false_iff_not]
  exact ⟨m1, m2, m3, rfl, w_over (den hx hy).1 (den hx hy).2 (rt_v.mpr (end0 q))⟩
theorem w_added {S : Sto} {x y : Fr} {Q : RV → Sto → Prop} (hx : x.Ok) (hy : y.Ok) (q : Q (.v (x.sum y).v) S) : WC c_added [.v x.v, .v y.v] S Q := by
  refine wc_d rfl ?_
  unfold m_added Fr.v
  show W _ [some (.v (.tup _)), some (.v (.tup _))] _ _
  obtain ⟨m1, m2, m3⟩ := mulok hx hy
  simp only [↓w_c, ↓w_e2, ↓we1', ↓p_v, ↓pr0, ↓pr1, ↓pr2, ↓pr3, ↓prA, ↓prB, ↓poL, ↓poD, ↓wB', ↓wt_N, ↓wt_An, ↓wt_Or, ↓wt_Ye, ↓w_Bo, ↓w_An, ↓w_Or, ↓w_If, ↓ws_If, ↓wa_Nil, ↓wa_Cons, ↓wTup', ↓wLst', ↓wLstM', ↓w_Dct, ↓w_DctM, ↓w_B, ↓w_Call, ↓wMt', ↓pl_nil, ↓pl_cons, ↓wc_P, ↓wc_M, ↓wSl', ↓wo_No, ↓woS', ↓wRlv, ↓wRlm, ↓ws_Nil, ↓ws_Cons, ↓then_nx, ↓then_rt, ↓ws_Asg, ↓wg_Nm, ↓wg_Tp, ↓wgs_Nil, ↓wgs_Cons, ↓wgSb', ↓ws_Par, ↓aug0, ↓aug1, ↓aug2, ↓aug3, ↓aug4, ↓aug5, ↓aug6, ↓aug7, ↓aug8, ↓aug9, ↓aug10, ↓aug11, ↓aug12, ↓aug13, ↓aug14, ↓aug15, ↓aug16, ↓aug17, ↓wAugS', ↓ws_Ret, ↓ws_RetT, ↓ws_Drop, ↓ws_For, ↓wSq', ↓wRg', ↓rg1, ↓rg2, ↓rg3, ↓rl1, ↓rl2, ↓rl3, ↓wEn', ↓enV, ↓wZp', ↓zpVV, ↓zpVB, ↓g_add, ↓g_addL, ↓g_addT, ↓g_iadd, ↓g_sub, ↓g_mul, ↓g_mulL, ↓g_fdiv, ↓g_mod, ↓g_pow, ↓g_lt, ↓g_le, ↓g_gt, ↓g_ge, ↓g_eqI, ↓g_neI, ↓g_is, ↓g_isnt, ↓g_ixT, ↓g_ixL, ↓g_ixD, ↓gl_abs, ↓gl_max, ↓gl_min, ↓gl_int, ↓gl_intB, ↓gl_gcd, ↓gl_lenL, ↓gl_lenT, ↓gl_tupL, ↓gl_tupT, ↓gl_lstL, ↓gl_lstT, ↓gl_rep, ↓gl_sortD, ↓gl_sortL, ↓ngI, ↓slL, ↓slT, ↓slS, ↓bo, ↓io, ↓av0, ↓av1, ↓itL, ↓itT, ↓it0, ↓it1, ↓it2, ↓itB, ↓rtB, ↓rt_v, ↓g_ninI, ↓g_inI, ↓w_Lc, ↓w_LcM, ↓turn_nx, wipeL_cons, wipeL_nil, ↓sw0, ↓sw1, ↓sw2, ↓gix2, ↓app0, ↓app1, ↓app2, ↓appB, ↓isL0, ↓isL1, ↓isL2, ↓isLB, ↓isLv, ↓at_head, ↓v0, ↓v1, ↓v2, ↓v3, ↓v4, ↓v5, ↓v6, ↓v7, ↓v8, ↓v9, ↓v10, ↓v11, ↓v12, ↓v13, ↓v14, ↓v15, ↓v16, ↓v17, ↓t0, ↓t1, ↓t2, ↓t3, ↓t4, ↓t5, ↓t6, ↓t7, ↓t8, ↓setAll0, ↓setAll1, List.set_cons_zero, List.set_cons_succ, decide_eq_true_eq, Bool.not_eq_true', decide_eq_false_iff_not]
  exact ⟨m1, m2, m3, rfl, w_reduced (den hx hy).1 (den hx hy).2 (rt_v.mpr (end0 q))⟩
/-- x is the lesser -/
def Fr.lt (x y : Fr) : Bool := decide (x.n * y.d < y.n * x.d)
theorem w_below {S : Sto} {x y : Fr} {Q : RV → Sto → Prop} (hx : x.Ok) (hy : y.Ok) (q : Q (.v (.bl (x.lt y))) S) : WC c__law_is_below [.v x.v, .v y.v] S Q := by
  refine wc_d rfl ?_
  unfold m__law_is_below Fr.v
  show W _ [some (.v (.tup _)), some (.v (.tup _))] _ _
  obtain ⟨m1, m2, m3⟩ := mulok hx hy
  simp only [↓w_c, ↓w_e2, ↓we1', ↓p_v, ↓pr0, ↓pr1, ↓pr2, ↓pr3, ↓prA, ↓prB, ↓poL, ↓poD, ↓wB', ↓wt_N, ↓wt_An, ↓wt_Or, ↓wt_Ye, ↓w_Bo, ↓w_An, ↓w_Or, ↓w_If, ↓ws_If, ↓wa_Nil, ↓wa_Cons, ↓wTup', ↓wLst', ↓wLstM', ↓w_Dct, ↓w_DctM, ↓w_B, ↓w_Call, ↓wMt', ↓pl_nil, ↓pl_cons, ↓wc_P, ↓wc_M, ↓wSl', ↓wo_No, ↓woS', ↓wRlv, ↓wRlm, ↓ws_Nil, ↓ws_Cons, ↓then_nx, ↓then_rt, ↓ws_Asg, ↓wg_Nm, ↓wg_Tp, ↓wgs_Nil, ↓wgs_Cons, ↓wgSb', ↓ws_Par, ↓aug0, ↓aug1, ↓aug2, ↓aug3, ↓aug4, ↓aug5, ↓aug6, ↓aug7, ↓aug8, ↓aug9, ↓aug10, ↓aug11, ↓aug12, ↓aug13, ↓aug14, ↓aug15, ↓aug16, ↓aug17, ↓wAugS', ↓ws_Ret, ↓ws_RetT, ↓ws_Drop, ↓ws_For, ↓wSq', ↓wRg', ↓rg1, ↓rg2, ↓rg3, ↓rl1, ↓rl2, ↓rl3, ↓wEn', ↓enV, ↓wZp', ↓zpVV, ↓zpVB, ↓g_add, ↓g_addL, ↓g_addT, ↓g_iadd, ↓g_sub, ↓g_mul, ↓g_mulL, ↓g_fdiv, ↓g_mod, ↓g_pow, ↓g_lt, ↓g_le, ↓g_gt, ↓g_ge, ↓g_eqI, ↓g_neI, ↓g_is, ↓g_isnt, ↓g_ixT, ↓g_ixL, ↓g_ixD, ↓gl_abs, ↓gl_max, ↓gl_min, ↓gl_int, ↓gl_intB, ↓gl_gcd, ↓gl_lenL, ↓gl_lenT, ↓gl_tupL, ↓gl_tupT, ↓gl_lstL, ↓gl_lstT, ↓gl_rep, ↓gl_sortD, ↓gl_sortL, ↓ngI, ↓slL, ↓slT, ↓slS, ↓bo, ↓io, ↓av0, ↓av1, ↓itL, ↓itT, ↓it0, ↓it1, ↓it2, ↓itB, ↓rtB, ↓rt_v, ↓g_ninI, ↓g_inI, ↓w_Lc, ↓w_LcM, ↓turn_nx, wipeL_cons, wipeL_nil, ↓sw0, ↓sw1, ↓sw2, ↓gix2, ↓app0, ↓app1, ↓app2, ↓appB, ↓isL0, ↓isL1, ↓isL2, ↓isLB, ↓isLv, ↓at_head, ↓v0, ↓v1, ↓v2, ↓v3, ↓v4, ↓v5, ↓v6, ↓v7, ↓v8, ↓v9, ↓v10, ↓v11, ↓v12, ↓v13, ↓v14, ↓v15, ↓v16, ↓v17, ↓t0, ↓t1, ↓t2, ↓t3, ↓t4, ↓t5, ↓t6, ↓t7, ↓t8, ↓setAll0, ↓setAll1, List.set_cons_zero, List.set_cons_succ, decide_eq_true_eq, Bool.not_eq_true', decide_eq_false_iff_not]
  exact ⟨m1, m2, end0 q⟩
theorem w_compared {S : Sto} {x y : Fr} {Q : RV → Sto → Prop} (hx : x.Ok) (hy : y.Ok) (k : ∀ i : Int, (i < 0 ↔ x.lt y = true) → Q (.v (.int i)) S) : WC c_compared [.v x.v, .v y.v] S Q := by
  refine wc_d rfl ?_
  unfold m_compared d_compared_1 Fr.v
  show W _ [some (.v (.tup _)), some (.v (.tup _)), none, none] _ _
  obtain ⟨m1, m2, m3⟩ := mulok hx hy
  simp only [↓w_c, ↓w_e2, ↓we1', ↓p_v, ↓pr0, ↓pr1, ↓pr2, ↓pr3, ↓prA, ↓prB, ↓poL, ↓poD, ↓wB', ↓wt_N, ↓wt_An, ↓wt_Or, ↓wt_Ye, ↓w_Bo, ↓w_An, ↓w_Or, ↓w_If, ↓ws_If, ↓wa_Nil, ↓wa_Cons, ↓wTup', ↓wLst', ↓wLstM', ↓w_Dct, ↓w_DctM, ↓w_B, ↓w_Call, ↓wMt', ↓pl_nil, ↓pl_cons, ↓wc_P, ↓wc_M, ↓wSl', ↓wo_No, ↓woS', ↓wRlv, ↓wRlm, ↓ws_Nil, ↓ws_Cons, ↓then_nx, ↓then_rt, ↓ws_Asg, ↓wg_Nm, ↓wg_Tp, ↓wgs_Nil, ↓wgs_Cons, ↓wgSb', ↓ws_Par, ↓aug0, ↓aug1, ↓aug2, ↓aug3, ↓aug4, ↓aug5, ↓aug6, ↓aug7, ↓aug8, ↓aug9, ↓aug10, ↓aug11, ↓aug12, ↓aug13, ↓aug14, ↓aug15, ↓aug16, ↓aug17, ↓wAugS', ↓ws_Ret, ↓ws_RetT, ↓ws_Drop, ↓ws_For, ↓wSq', ↓wRg', ↓rg1, ↓rg2, ↓rg3, ↓rl1, ↓rl2, ↓rl3, ↓wEn', ↓enV, ↓wZp', ↓zpVV, ↓zpVB, ↓g_add, ↓g_addL, ↓g_addT, ↓g_iadd, ↓g_sub, ↓g_mul, ↓g_mulL, ↓g_fdiv, ↓g_mod, ↓g_pow, ↓g_lt, ↓g_le, ↓g_gt, ↓g_ge, ↓g_eqI, ↓g_neI, ↓g_is, ↓g_isnt, ↓g_ixT, ↓g_ixL, ↓g_ixD, ↓gl_abs, ↓gl_max, ↓gl_min, ↓gl_int, ↓gl_intB, ↓gl_gcd, ↓gl_lenL, ↓gl_lenT, ↓gl_tupL, ↓gl_tupT, ↓gl_lstL, ↓gl_lstT, ↓gl_rep, ↓gl_sortD, ↓gl_sortL, ↓ngI, ↓slL, ↓slT, ↓slS, ↓bo, ↓io, ↓av0, ↓av1, ↓itL, ↓itT, ↓it0, ↓it1, ↓it2, ↓itB, ↓rtB, ↓rt_v, ↓g_ninI, ↓g_inI, ↓w_Lc, ↓w_LcM, ↓turn_nx, wipeL_cons, wipeL_nil, ↓sw0, ↓sw1, ↓sw2, ↓gix2, ↓app0, ↓app1, ↓app2, ↓appB, ↓isL0, ↓isL1, ↓isL2, ↓isLB, ↓isLv, ↓at_head, ↓v0, ↓v1, ↓v2, ↓v3, ↓v4, ↓v5, ↓v6, ↓v7, ↓v8, ↓v9, ↓v10, ↓v11, ↓v12, ↓v13, ↓v14, ↓v15, ↓v16, ↓v17, ↓t0, ↓t1, ↓t2, ↓t3, ↓t4, ↓t5, ↓t6, ↓t7, ↓t8, ↓setAll0, ↓setAll1, List.set_cons_zero, List.set_cons_succ, decide_eq_true_eq, Bool.not_eq_true', decide_eq_false_iff_not]
  refine ⟨m1, m2, ⟨rfl, by decide⟩, end0 (k _ ?_)⟩
  unfold Fr.lt
  rw [decide_eq_true_eq]
  generalize x.n * y.d = a
  generalize y.n * x.d = b
  split <;> split <;> omega
end K61

namespace K61
open PySem PySem.Spec PyProof.Rows L2 Dn
theorem w_someF {R : Sto} {o : SO} (fs : List Fr) {Q : RV → Sto → Prop} (hB : BagO o) (h1 : fs ≠ []) (h2 : fs.length ≤ 1000000) (k : ∀ f o', f ∈ fs → BagO o' → Q (.v f.v) (o' :: R)) : WC c__law_some [.ref 0, .v (.lst (fs.map Fr.v))] (o :: R) Q :=
  w_some hB (by simpa using h1) (by simpa using h2) fun x o' hx hB' => by
    obtain ⟨i, hi, rfl⟩ := List.mem_map.mp hx
    exact k i o' hi hB'
theorem w_part {R : Sto} {o : SO} {ck : Int} {Q : RV → Sto → Prop} (hB : BagO o) (hc : 0 ≤ ck ∧ ck ≤ 2) (k : ∀ (f : Fr) o', f.Ok → f.n.natAbs ≤ 2 ^ 30 → BagO o' → Q (.v f.v) (o' :: R)) : WC c__law_part [.ref 0, .v (.int ck)] (o :: R) Q := by
  refine wc_d rfl ?_
  unfold m__law_part d__law_part_1
  show W _ [some (.ref 0), some (.v (.int ck)), none] _ _
  simp only [↓w_c, ↓w_e2, ↓we1', ↓p_v, ↓pr0, ↓pr1, ↓pr2, ↓pr3, ↓prA, ↓prB, ↓poL, ↓poD, ↓wB', ↓wt_N, ↓wt_An, ↓wt_Or, ↓wt_Ye, ↓w_Bo, ↓w_An, ↓w_Or, ↓w_If, ↓ws_If, ↓wa_Nil, ↓wa_Cons, ↓wTup', ↓wLst', ↓wLstM', ↓w_Dct, ↓w_DctM, ↓w_B, ↓w_Call, ↓wMt', ↓pl_nil, ↓pl_cons, ↓wc_P, ↓wc_M, ↓wSl', ↓wo_No, ↓woS', ↓wRlv, ↓wRlm, ↓ws_Nil, ↓ws_Cons, ↓then_nx, ↓then_rt, ↓ws_Asg, ↓wg_Nm, ↓wg_Tp, ↓wgs_Nil, ↓wgs_Cons, ↓wgSb', ↓ws_Par, ↓aug0, ↓aug1, ↓aug2, ↓aug3, ↓aug4, ↓aug5, ↓aug6, ↓aug7, ↓aug8, ↓aug9, ↓aug10, ↓aug11, ↓aug12, ↓aug13, ↓aug14, ↓aug15, ↓aug16, ↓aug17, ↓wAugS', ↓ws_Ret, ↓ws_RetT, ↓ws_Drop, ↓ws_For, ↓wSq', ↓wRg', ↓rg1, ↓rg2, ↓rg3, ↓rl1, ↓rl2, ↓rl3, ↓wEn', ↓enV, ↓wZp', ↓zpVV, ↓zpVB, ↓g_add, ↓g_addL, ↓g_addT, ↓g_iadd, ↓g_sub, ↓g_mul, ↓g_mulL, ↓g_fdiv, ↓g_mod, ↓g_pow, ↓g_lt, ↓g_le, ↓g_gt, ↓g_ge, ↓g_eqI, ↓g_neI, ↓g_is, ↓g_isnt, ↓g_ixT, ↓g_ixL, ↓g_ixD, ↓gl_abs, ↓gl_max, ↓gl_min, ↓gl_int, ↓gl_intB, ↓gl_gcd, ↓gl_lenL, ↓gl_lenT, ↓gl_tupL, ↓gl_tupT, ↓gl_lstL, ↓gl_lstT, ↓gl_rep, ↓gl_sortD, ↓gl_sortL, ↓ngI, ↓slL, ↓slT, ↓slS, ↓bo, ↓io, ↓av0, ↓av1, ↓itL, ↓itT, ↓it0, ↓it1, ↓it2, ↓itB, ↓rtB, ↓rt_v, ↓g_ninI, ↓g_inI, ↓w_Lc, ↓w_LcM, ↓turn_nx, wipeL_cons, wipeL_nil, ↓sw0, ↓sw1, ↓sw2, ↓gix2, ↓app0, ↓app1, ↓app2, ↓appB, ↓isL0, ↓isL1, ↓isL2, ↓isLB, ↓isLv, ↓at_head, ↓v0, ↓v1, ↓v2, ↓v3, ↓v4, ↓v5, ↓v6, ↓v7, ↓v8, ↓v9, ↓v10, ↓v11, ↓v12, ↓v13, ↓v14, ↓v15, ↓v16, ↓v17, ↓t0, ↓t1, ↓t2, ↓t3, ↓t4, ↓t5, ↓t6, ↓t7, ↓t8, ↓setAll0, ↓setAll1, List.set_cons_zero, List.set_cons_succ, decide_eq_true_eq, Bool.not_eq_true', decide_eq_false_iff_not]
  refine ⟨rfl, rfl, rfl, rfl, w_over (by decide) (by decide) ?_⟩
  try (simp only [↓w_c, ↓w_e2, ↓we1', ↓p_v, ↓pr0, ↓pr1, ↓pr2, ↓pr3, ↓prA, ↓prB, ↓poL, ↓poD, ↓wB', ↓wt_N, ↓wt_An, ↓wt_Or, ↓wt_Ye, ↓w_Bo, ↓w_An, ↓w_Or, ↓w_If, ↓ws_If, ↓wa_Nil, ↓wa_Cons, ↓wTup', ↓wLst', ↓wLstM', ↓w_Dct, ↓w_DctM, ↓w_B, ↓w_Call, ↓wMt', ↓pl_nil, ↓pl_cons, ↓wc_P, ↓wc_M, ↓wSl', ↓wo_No, ↓woS', ↓wRlv, ↓wRlm, ↓ws_Nil, ↓ws_Cons, ↓then_nx, ↓then_rt, ↓ws_Asg, ↓wg_Nm, ↓wg_Tp, ↓wgs_Nil, ↓wgs_Cons, ↓wgSb', ↓ws_Par, ↓aug0, ↓aug1, ↓aug2, ↓aug3, ↓aug4, ↓aug5, ↓aug6, ↓aug7, ↓aug8, ↓aug9, ↓aug10, ↓aug11, ↓aug12, ↓aug13, ↓aug14, ↓aug15, ↓aug16, ↓aug17, ↓wAugS', ↓ws_Ret, ↓ws_RetT, ↓ws_Drop, ↓ws_For, ↓wSq', ↓wRg', ↓rg1, ↓rg2, ↓rg3, ↓rl1, ↓rl2, ↓rl3, ↓wEn', ↓enV, ↓wZp', ↓zpVV, ↓zpVB, ↓g_add, ↓g_addL, ↓g_addT, ↓g_iadd, ↓g_sub, ↓g_mul, ↓g_mulL, ↓g_fdiv, ↓g_mod, ↓g_pow, ↓g_lt, ↓g_le, ↓g_gt, ↓g_ge, ↓g_eqI, ↓g_neI, ↓g_is, ↓g_isnt, ↓g_ixT, ↓g_ixL, ↓g_ixD, ↓gl_abs, ↓gl_max, ↓gl_min, ↓gl_int, ↓gl_intB, ↓gl_gcd, ↓gl_lenL, ↓gl_lenT, ↓gl_tupL, ↓gl_tupT, ↓gl_lstL, ↓gl_lstT, ↓gl_rep, ↓gl_sortD, ↓gl_sortL, ↓ngI, ↓slL, ↓slT, ↓slS, ↓bo, ↓io, ↓av0, ↓av1, ↓itL, ↓itT, ↓it0, ↓it1, ↓it2, ↓itB, ↓rtB, ↓rt_v, ↓g_ninI, ↓g_inI, ↓w_Lc, ↓w_LcM, ↓turn_nx, wipeL_cons, wipeL_nil, ↓sw0, ↓sw1, ↓sw2, ↓gix2, ↓app0, ↓app1, ↓app2, ↓appB, ↓isL0, ↓isL1, ↓isL2, ↓isLB, ↓isLv, ↓at_head, ↓v0, ↓v1, ↓v2, ↓v3, ↓v4, ↓v5, ↓v6, ↓v7, ↓v8, ↓v9, ↓v10, ↓v11, ↓v12, ↓v13, ↓v14, ↓v15, ↓v16, ↓v17, ↓t0, ↓t1, ↓t2, ↓t3, ↓t4, ↓t5, ↓t6, ↓t7, ↓t8, ↓setAll0, ↓setAll1, List.set_cons_zero, List.set_cons_succ, decide_eq_true_eq, Bool.not_eq_true', decide_eq_false_iff_not])
  refine ⟨rfl, w_over (by decide) (by decide) ?_⟩
  try (simp only [↓w_c, ↓w_e2, ↓we1', ↓p_v, ↓pr0, ↓pr1, ↓pr2, ↓pr3, ↓prA, ↓prB, ↓poL, ↓poD, ↓wB', ↓wt_N, ↓wt_An, ↓wt_Or, ↓wt_Ye, ↓w_Bo, ↓w_An, ↓w_Or, ↓w_If, ↓ws_If, ↓wa_Nil, ↓wa_Cons, ↓wTup', ↓wLst', ↓wLstM', ↓w_Dct, ↓w_DctM, ↓w_B, ↓w_Call, ↓wMt', ↓pl_nil, ↓pl_cons, ↓wc_P, ↓wc_M, ↓wSl', ↓wo_No, ↓woS', ↓wRlv, ↓wRlm, ↓ws_Nil, ↓ws_Cons, ↓then_nx, ↓then_rt, ↓ws_Asg, ↓wg_Nm, ↓wg_Tp, ↓wgs_Nil, ↓wgs_Cons, ↓wgSb', ↓ws_Par, ↓aug0, ↓aug1, ↓aug2, ↓aug3, ↓aug4, ↓aug5, ↓aug6, ↓aug7, ↓aug8, ↓aug9, ↓aug10, ↓aug11, ↓aug12, ↓aug13, ↓aug14, ↓aug15, ↓aug16, ↓aug17, ↓wAugS', ↓ws_Ret, ↓ws_RetT, ↓ws_Drop, ↓ws_For, ↓wSq', ↓wRg', ↓rg1, ↓rg2, ↓rg3, ↓rl1, ↓rl2, ↓rl3, ↓wEn', ↓enV, ↓wZp', ↓zpVV, ↓zpVB, ↓g_add, ↓g_addL, ↓g_addT, ↓g_iadd, ↓g_sub, ↓g_mul, ↓g_mulL, ↓g_fdiv, ↓g_mod, ↓g_pow, ↓g_lt, ↓g_le, ↓g_gt, ↓g_ge, ↓g_eqI, ↓g_neI, ↓g_is, ↓g_isnt, ↓g_ixT, ↓g_ixL, ↓g_ixD, ↓gl_abs, ↓gl_max, ↓gl_min, ↓gl_int, ↓gl_intB, ↓gl_gcd, ↓gl_lenL, ↓gl_lenT, ↓gl_tupL, ↓gl_tupT, ↓gl_lstL, ↓gl_lstT, ↓gl_rep, ↓gl_sortD, ↓gl_sortL, ↓ngI, ↓slL, ↓slT, ↓slS, ↓bo, ↓io, ↓av0, ↓av1, ↓itL, ↓itT, ↓it0, ↓it1, ↓it2, ↓itB, ↓rtB, ↓rt_v, ↓g_ninI, ↓g_inI, ↓w_Lc, ↓w_LcM, ↓turn_nx, wipeL_cons, wipeL_nil, ↓sw0, ↓sw1, ↓sw2, ↓gix2, ↓app0, ↓app1, ↓app2, ↓appB, ↓isL0, ↓isL1, ↓isL2, ↓isLB, ↓isLv, ↓at_head, ↓v0, ↓v1, ↓v2, ↓v3, ↓v4, ↓v5, ↓v6, ↓v7, ↓v8, ↓v9, ↓v10, ↓v11, ↓v12, ↓v13, ↓v14, ↓v15, ↓v16, ↓v17, ↓t0, ↓t1, ↓t2, ↓t3, ↓t4, ↓t5, ↓t6, ↓t7, ↓t8, ↓setAll0, ↓setAll1, List.set_cons_zero, List.set_cons_succ, decide_eq_true_eq, Bool.not_eq_true', decide_eq_false_iff_not])
  refine ⟨mul_l (by decide) (by decide), rfl, w_over (by decide) (by decide) ?_⟩
  try (simp only [↓w_c, ↓w_e2, ↓we1', ↓p_v, ↓pr0, ↓pr1, ↓pr2, ↓pr3, ↓prA, ↓prB, ↓poL, ↓poD, ↓wB', ↓wt_N, ↓wt_An, ↓wt_Or, ↓wt_Ye, ↓w_Bo, ↓w_An, ↓w_Or, ↓w_If, ↓ws_If, ↓wa_Nil, ↓wa_Cons, ↓wTup', ↓wLst', ↓wLstM', ↓w_Dct, ↓w_DctM, ↓w_B, ↓w_Call, ↓wMt', ↓pl_nil, ↓pl_cons, ↓wc_P, ↓wc_M, ↓wSl', ↓wo_No, ↓woS', ↓wRlv, ↓wRlm, ↓ws_Nil, ↓ws_Cons, ↓then_nx, ↓then_rt, ↓ws_Asg, ↓wg_Nm, ↓wg_Tp, ↓wgs_Nil, ↓wgs_Cons, ↓wgSb', ↓ws_Par, ↓aug0, ↓aug1, ↓aug2, ↓aug3, ↓aug4, ↓aug5, ↓aug6, ↓aug7, ↓aug8, ↓aug9, ↓aug10, ↓aug11, ↓aug12, ↓aug13, ↓aug14, ↓aug15, ↓aug16, ↓aug17, ↓wAugS', ↓ws_Ret, ↓ws_RetT, ↓ws_Drop, ↓ws_For, ↓wSq', ↓wRg', ↓rg1, ↓rg2, ↓rg3, ↓rl1, ↓rl2, ↓rl3, ↓wEn', ↓enV, ↓wZp', ↓zpVV, ↓zpVB, ↓g_add, ↓g_addL, ↓g_addT, ↓g_iadd, ↓g_sub, ↓g_mul, ↓g_mulL, ↓g_fdiv, ↓g_mod, ↓g_pow, ↓g_lt, ↓g_le, ↓g_gt, ↓g_ge, ↓g_eqI, ↓g_neI, ↓g_is, ↓g_isnt, ↓g_ixT, ↓g_ixL, ↓g_ixD, ↓gl_abs, ↓gl_max, ↓gl_min, ↓gl_int, ↓gl_intB, ↓gl_gcd, ↓gl_lenL, ↓gl_lenT, ↓gl_tupL, ↓gl_tupT, ↓gl_lstL, ↓gl_lstT, ↓gl_rep, ↓gl_sortD, ↓gl_sortL, ↓ngI, ↓slL, ↓slT, ↓slS, ↓bo, ↓io, ↓av0, ↓av1, ↓itL, ↓itT, ↓it0, ↓it1, ↓it2, ↓itB, ↓rtB, ↓rt_v, ↓g_ninI, ↓g_inI, ↓w_Lc, ↓w_LcM, ↓turn_nx, wipeL_cons, wipeL_nil, ↓sw0, ↓sw1, ↓sw2, ↓gix2, ↓app0, ↓app1, ↓app2, ↓appB, ↓isL0, ↓isL1, ↓isL2, ↓isLB, ↓isLv, ↓at_head, ↓v0, ↓v1, ↓v2, ↓v3, ↓v4, ↓v5, ↓v6, ↓v7, ↓v8, ↓v9, ↓v10, ↓v11, ↓v12, ↓v13, ↓v14, ↓v15, ↓v16, ↓v17, ↓t0, ↓t1, ↓t2, ↓t3, ↓t4, ↓t5, ↓t6, ↓t7, ↓t8, ↓setAll0, ↓setAll1, List.set_cons_zero, List.set_cons_succ, decide_eq_true_eq, Bool.not_eq_true', decide_eq_false_iff_not])
  refine ⟨rfl, rfl, w_someF [⟨0, 1⟩, ⟨ck, 1⟩, ⟨-ck, 1⟩, ovr ck 2, ovr (-ck) 3, ovr (2 * ck) 3] hB (by simp) (by simp) fun f o' hf hB' => ?_⟩
  simp only [List.mem_cons, List.not_mem_nil, or_false] at hf
  have small : ∀ n d : Int, n.natAbs ≤ 10 → 1 ≤ d → d ≤ 10 → (⟨n, d⟩ : Fr).Ok := fun n d h1 h2 h3 => ⟨Nat.le_trans h1 (by decide), h2, by show d ≤ 1000; omega⟩
  refine rt_v.mpr (end1 (k f o' ?_ ?_ hB'))
  · rcases hf with rfl | rfl | rfl | rfl | rfl | rfl
    · exact small _ _ (by decide) (by decide) (by decide)
    · exact small _ _ (by omega) (by decide) (by decide)
    · exact small _ _ (by omega) (by decide) (by decide)
    · exact ovr_ok (by omega) (by decide) (by decide)
    · exact ovr_ok (by omega) (by decide) (by decide)
    · exact ovr_ok (by omega) (by decide) (by decide)
  · rcases hf with rfl | rfl | rfl | rfl | rfl | rfl
    · exact (by decide : (0 : Int).natAbs ≤ 2 ^ 30)
    · exact (by omega : ck.natAbs ≤ 2 ^ 30)
    · exact (by omega : (-ck).natAbs ≤ 2 ^ 30)
    · exact Nat.le_trans (Int.natAbs_ediv_le_natAbs _ _) (by omega)
    · exact Nat.le_trans (Int.natAbs_ediv_le_natAbs _ _) (by omega)
    · exact Nat.le_trans (Int.natAbs_ediv_le_natAbs _ _) (by omega)
structure Wd where
  (x y : Fr)
def Wd.v (w : Wd) : PV := .tup [w.x.v, w.y.v]
structure Wd.Ok (w : Wd) : Prop where
  x : w.x.Ok
  y : w.y.Ok
theorem wind_some {R : Sto} {o z : SO} {wd : Int} {Q : RV → Sto → Prop} (hB : BagO o) (hc : 0 ≤ wd ∧ wd ≤ 1) (k : ∀ (f : Wd) o', f.Ok → BagO o' → Q (.v f.v) (o' :: R)) : WC c__law_some [.ref 0, .v (.lst [.tup [.tup [.int 0, .int 1], .tup [.int 0, .int 1]], .tup [.tup [.int wd, .int 1], .tup [.int 0, .int 1]], .tup [.tup [.int 0, .int 1], .tup [.int (-wd), .int 1]], .tup [(ovr (3 * wd) 5).v, (ovr (4 * wd) 5).v], .tup [(ovr (-wd) 2).v, (ovr wd 2).v], .tup [.tup [.int (-wd), .int 1], .tup [.int 0, .int 1]]])] (o :: (R ++ [z])) (fun x S1 => RT (R.length + 1) Q (.rt (.one x)) S1) := by
  refine w_some (xs := ([⟨⟨0, 1⟩, ⟨0, 1⟩⟩, ⟨⟨wd, 1⟩, ⟨0, 1⟩⟩, ⟨⟨0, 1⟩, ⟨-wd, 1⟩⟩, ⟨ovr (3 * wd) 5, ovr (4 * wd) 5⟩, ⟨ovr (-wd) 2, ovr wd 2⟩, ⟨⟨-wd, 1⟩, ⟨0, 1⟩⟩] : List Wd).map Wd.v) hB (by simp) (by simp) fun x o' hx hB' => ?_
  obtain ⟨w, hw, rfl⟩ := List.mem_map.mp hx
  refine rtA.mpr (k w o' ?_ hB')
  simp only [List.mem_cons, List.not_mem_nil, or_false] at hw
  have small : ∀ n d : Int, n.natAbs ≤ 10 → 1 ≤ d → d ≤ 10 → (⟨n, d⟩ : Fr).Ok := fun n d h1 h2 h3 => ⟨Nat.le_trans h1 (by decide), h2, by show d ≤ 1000; omega⟩
  rcases hw with rfl | rfl | rfl | rfl | rfl | rfl
  · exact ⟨small _ _ (by decide) (by decide) (by decide), small _ _ (by decide) (by decide) (by decide)⟩
  · exact ⟨small _ _ (by omega) (by decide) (by decide), small _ _ (by decide) (by decide) (by decide)⟩
  · exact ⟨small _ _ (by decide) (by decide) (by decide), small _ _ (by omega) (by decide) (by decide)⟩
  · exact ⟨ovr_ok (by omega) (by decide) (by decide), ovr_ok (by omega) (by decide) (by decide)⟩
  · exact ⟨ovr_ok (by omega) (by decide) (by decide), ovr_ok (by omega) (by decide) (by decide)⟩
  · exact ⟨small _ _ (by omega) (by decide) (by decide), small _ _ (by decide) (by decide) (by decide)⟩
theorem w_wind {R : Sto} {o : SO} {wd : Int} {Q : RV → Sto → Prop} (hB : BagO o) (hc : 0 ≤ wd ∧ wd ≤ 1) (k : ∀ (f : Wd) o', f.Ok → BagO o' → Q (.v f.v) (o' :: R)) : WC c__law_wind [.ref 0, .v (.int wd)] (o :: R) Q := by
  refine wc_d rfl ?_
  unfold m__law_wind d__law_wind_1 d__law_wind_2
  show W _ [some (.ref 0), some (.v (.int wd)), none] _ _
  simp only [↓w_c, ↓w_e2, ↓we1', ↓p_v, ↓pr0, ↓pr1, ↓pr2, ↓pr3, ↓prA, ↓prB, ↓poL, ↓poD, ↓wB', ↓wt_N, ↓wt_An, ↓wt_Or, ↓wt_Ye, ↓w_Bo, ↓w_An, ↓w_Or, ↓w_If, ↓ws_If, ↓wa_Nil, ↓wa_Cons, ↓wTup', ↓wLst', ↓wLstM', ↓w_Dct, ↓w_DctM, ↓w_B, ↓w_Call, ↓wMt', ↓pl_nil, ↓pl_cons, ↓wc_P, ↓wc_M, ↓wSl', ↓wo_No, ↓woS', ↓wRlv, ↓wRlm, ↓ws_Nil, ↓ws_Cons, ↓then_nx, ↓then_rt, ↓ws_Asg, ↓wg_Nm, ↓wg_Tp, ↓wgs_Nil, ↓wgs_Cons, ↓wgSb', ↓ws_Par, ↓aug0, ↓aug1, ↓aug2, ↓aug3, ↓aug4, ↓aug5, ↓aug6, ↓aug7, ↓aug8, ↓aug9, ↓aug10, ↓aug11, ↓aug12, ↓aug13, ↓aug14, ↓aug15, ↓aug16, ↓aug17, ↓wAugS', ↓ws_Ret, ↓ws_RetT, ↓ws_Drop, ↓ws_For, ↓wSq', ↓wRg', ↓rg1, ↓rg2, ↓rg3, ↓rl1, ↓rl2, ↓rl3, ↓wEn', ↓enV, ↓wZp', ↓zpVV, ↓zpVB, ↓g_add, ↓g_addL, ↓g_addT, ↓g_iadd, ↓g_sub, ↓g_mul, ↓g_mulL, ↓g_fdiv, ↓g_mod, ↓g_pow, ↓g_lt, ↓g_le, ↓g_gt, ↓g_ge, ↓g_eqI, ↓g_neI, ↓g_is, ↓g_isnt, ↓g_ixT, ↓g_ixL, ↓g_ixD, ↓gl_abs, ↓gl_max, ↓gl_min, ↓gl_int, ↓gl_intB, ↓gl_gcd, ↓gl_lenL, ↓gl_lenT, ↓gl_tupL, ↓gl_tupT, ↓gl_lstL, ↓gl_lstT, ↓gl_rep, ↓gl_sortD, ↓gl_sortL, ↓ngI, ↓slL, ↓slT, ↓slS, ↓bo, ↓io, ↓av0, ↓av1, ↓itL, ↓itT, ↓it0, ↓it1, ↓it2, ↓itB, ↓rtB, ↓rt_v, ↓g_ninI, ↓g_inI, ↓w_Lc, ↓w_LcM, ↓turn_nx, wipeL_cons, wipeL_nil, ↓sw0, ↓sw1, ↓sw2, ↓gix2, ↓app0, ↓app1, ↓app2, ↓appB, ↓isL0, ↓isL1, ↓isL2, ↓isLB, ↓isLv, ↓at_head, ↓v0, ↓v1, ↓v2, ↓v3, ↓v4, ↓v5, ↓v6, ↓v7, ↓v8, ↓v9, ↓v10, ↓v11, ↓v12, ↓v13, ↓v14, ↓v15, ↓v16, ↓v17, ↓t0, ↓t1, ↓t2, ↓t3, ↓t4, ↓t5, ↓t6, ↓t7, ↓t8, ↓setAll0, ↓setAll1, List.set_cons_zero, List.set_cons_succ, decide_eq_true_eq, Bool.not_eq_true', decide_eq_false_iff_not]
  refine ⟨rfl, rfl, rfl, rfl, rfl, rfl, rfl, rfl, rfl, rfl, trivial, mul_l (by decide) (by decide), rfl, w_over (by decide) (by decide) ?_⟩
  try (simp only [↓w_c, ↓w_e2, ↓we1', ↓p_v, ↓pr0, ↓pr1, ↓pr2, ↓pr3, ↓prA, ↓prB, ↓poL, ↓poD, ↓wB', ↓wt_N, ↓wt_An, ↓wt_Or, ↓wt_Ye, ↓w_Bo, ↓w_An, ↓w_Or, ↓w_If, ↓ws_If, ↓wa_Nil, ↓wa_Cons, ↓wTup', ↓wLst', ↓wLstM', ↓w_Dct, ↓w_DctM, ↓w_B, ↓w_Call, ↓wMt', ↓pl_nil, ↓pl_cons, ↓wc_P, ↓wc_M, ↓wSl', ↓wo_No, ↓woS', ↓wRlv, ↓wRlm, ↓ws_Nil, ↓ws_Cons, ↓then_nx, ↓then_rt, ↓ws_Asg, ↓wg_Nm, ↓wg_Tp, ↓wgs_Nil, ↓wgs_Cons, ↓wgSb', ↓ws_Par, ↓aug0, ↓aug1, ↓aug2, ↓aug3, ↓aug4, ↓aug5, ↓aug6, ↓aug7, ↓aug8, ↓aug9, ↓aug10, ↓aug11, ↓aug12, ↓aug13, ↓aug14, ↓aug15, ↓aug16, ↓aug17, ↓wAugS', ↓ws_Ret, ↓ws_RetT, ↓ws_Drop, ↓ws_For, ↓wSq', ↓wRg', ↓rg1, ↓rg2, ↓rg3, ↓rl1, ↓rl2, ↓rl3, ↓wEn', ↓enV, ↓wZp', ↓zpVV, ↓zpVB, ↓g_add, ↓g_addL, ↓g_addT, ↓g_iadd, ↓g_sub, ↓g_mul, ↓g_mulL, ↓g_fdiv, ↓g_mod, ↓g_pow, ↓g_lt, ↓g_le, ↓g_gt, ↓g_ge, ↓g_eqI, ↓g_neI, ↓g_is, ↓g_isnt, ↓g_ixT, ↓g_ixL, ↓g_ixD, ↓gl_abs, ↓gl_max, ↓gl_min, ↓gl_int, ↓gl_intB, ↓gl_gcd, ↓gl_lenL, ↓gl_lenT, ↓gl_tupL, ↓gl_tupT, ↓gl_lstL, ↓gl_lstT, ↓gl_rep, ↓gl_sortD, ↓gl_sortL, ↓ngI, ↓slL, ↓slT, ↓slS, ↓bo, ↓io, ↓av0, ↓av1, ↓itL, ↓itT, ↓it0, ↓it1, ↓it2, ↓itB, ↓rtB, ↓rt_v, ↓g_ninI, ↓g_inI, ↓w_Lc, ↓w_LcM, ↓turn_nx, wipeL_cons, wipeL_nil, ↓sw0, ↓sw1, ↓sw2, ↓gix2, ↓app0, ↓app1, ↓app2, ↓appB, ↓isL0, ↓isL1, ↓isL2, ↓isLB, ↓isLv, ↓at_head, ↓v0, ↓v1, ↓v2, ↓v3, ↓v4, ↓v5, ↓v6, ↓v7, ↓v8, ↓v9, ↓v10, ↓v11, ↓v12, ↓v13, ↓v14, ↓v15, ↓v16, ↓v17, ↓t0, ↓t1, ↓t2, ↓t3, ↓t4, ↓t5, ↓t6, ↓t7, ↓t8, ↓setAll0, ↓setAll1, List.set_cons_zero, List.set_cons_succ, decide_eq_true_eq, Bool.not_eq_true', decide_eq_false_iff_not])
  refine ⟨mul_l (by decide) (by decide), rfl, w_over (by decide) (by decide) ?_⟩
  try (simp only [↓w_c, ↓w_e2, ↓we1', ↓p_v, ↓pr0, ↓pr1, ↓pr2, ↓pr3, ↓prA, ↓prB, ↓poL, ↓poD, ↓wB', ↓wt_N, ↓wt_An, ↓wt_Or, ↓wt_Ye, ↓w_Bo, ↓w_An, ↓w_Or, ↓w_If, ↓ws_If, ↓wa_Nil, ↓wa_Cons, ↓wTup', ↓wLst', ↓wLstM', ↓w_Dct, ↓w_DctM, ↓w_B, ↓w_Call, ↓wMt', ↓pl_nil, ↓pl_cons, ↓wc_P, ↓wc_M, ↓wSl', ↓wo_No, ↓woS', ↓wRlv, ↓wRlm, ↓ws_Nil, ↓ws_Cons, ↓then_nx, ↓then_rt, ↓ws_Asg, ↓wg_Nm, ↓wg_Tp, ↓wgs_Nil, ↓wgs_Cons, ↓wgSb', ↓ws_Par, ↓aug0, ↓aug1, ↓aug2, ↓aug3, ↓aug4, ↓aug5, ↓aug6, ↓aug7, ↓aug8, ↓aug9, ↓aug10, ↓aug11, ↓aug12, ↓aug13, ↓aug14, ↓aug15, ↓aug16, ↓aug17, ↓wAugS', ↓ws_Ret, ↓ws_RetT, ↓ws_Drop, ↓ws_For, ↓wSq', ↓wRg', ↓rg1, ↓rg2, ↓rg3, ↓rl1, ↓rl2, ↓rl3, ↓wEn', ↓enV, ↓wZp', ↓zpVV, ↓zpVB, ↓g_add, ↓g_addL, ↓g_addT, ↓g_iadd, ↓g_sub, ↓g_mul, ↓g_mulL, ↓g_fdiv, ↓g_mod, ↓g_pow, ↓g_lt, ↓g_le, ↓g_gt, ↓g_ge, ↓g_eqI, ↓g_neI, ↓g_is, ↓g_isnt, ↓g_ixT, ↓g_ixL, ↓g_ixD, ↓gl_abs, ↓gl_max, ↓gl_min, ↓gl_int, ↓gl_intB, ↓gl_gcd, ↓gl_lenL, ↓gl_lenT, ↓gl_tupL, ↓gl_tupT, ↓gl_lstL, ↓gl_lstT, ↓gl_rep, ↓gl_sortD, ↓gl_sortL, ↓ngI, ↓slL, ↓slT, ↓slS, ↓bo, ↓io, ↓av0, ↓av1, ↓itL, ↓itT, ↓it0, ↓it1, ↓it2, ↓itB, ↓rtB, ↓rt_v, ↓g_ninI, ↓g_inI, ↓w_Lc, ↓w_LcM, ↓turn_nx, wipeL_cons, wipeL_nil, ↓sw0, ↓sw1, ↓sw2, ↓gix2, ↓app0, ↓app1, ↓app2, ↓appB, ↓isL0, ↓isL1, ↓isL2, ↓isLB, ↓isLv, ↓at_head, ↓v0, ↓v1, ↓v2, ↓v3, ↓v4, ↓v5, ↓v6, ↓v7, ↓v8, ↓v9, ↓v10, ↓v11, ↓v12, ↓v13, ↓v14, ↓v15, ↓v16, ↓v17, ↓t0, ↓t1, ↓t2, ↓t3, ↓t4, ↓t5, ↓t6, ↓t7, ↓t8, ↓setAll0, ↓setAll1, List.set_cons_zero, List.set_cons_succ, decide_eq_true_eq, Bool.not_eq_true', decide_eq_false_iff_not])
  refine ⟨rfl, (by decide : 3 + 1 ≤ 1000000), rfl, w_over (by decide) (by decide) ?_⟩
  try (simp only [↓w_c, ↓w_e2, ↓we1', ↓p_v, ↓pr0, ↓pr1, ↓pr2, ↓pr3, ↓prA, ↓prB, ↓poL, ↓poD, ↓wB', ↓wt_N, ↓wt_An, ↓wt_Or, ↓wt_Ye, ↓w_Bo, ↓w_An, ↓w_Or, ↓w_If, ↓ws_If, ↓wa_Nil, ↓wa_Cons, ↓wTup', ↓wLst', ↓wLstM', ↓w_Dct, ↓w_DctM, ↓w_B, ↓w_Call, ↓wMt', ↓pl_nil, ↓pl_cons, ↓wc_P, ↓wc_M, ↓wSl', ↓wo_No, ↓woS', ↓wRlv, ↓wRlm, ↓ws_Nil, ↓ws_Cons, ↓then_nx, ↓then_rt, ↓ws_Asg, ↓wg_Nm, ↓wg_Tp, ↓wgs_Nil, ↓wgs_Cons, ↓wgSb', ↓ws_Par, ↓aug0, ↓aug1, ↓aug2, ↓aug3, ↓aug4, ↓aug5, ↓aug6, ↓aug7, ↓aug8, ↓aug9, ↓aug10, ↓aug11, ↓aug12, ↓aug13, ↓aug14, ↓aug15, ↓aug16, ↓aug17, ↓wAugS', ↓ws_Ret, ↓ws_RetT, ↓ws_Drop, ↓ws_For, ↓wSq', ↓wRg', ↓rg1, ↓rg2, ↓rg3, ↓rl1, ↓rl2, ↓rl3, ↓wEn', ↓enV, ↓wZp', ↓zpVV, ↓zpVB, ↓g_add, ↓g_addL, ↓g_addT, ↓g_iadd, ↓g_sub, ↓g_mul, ↓g_mulL, ↓g_fdiv, ↓g_mod, ↓g_pow, ↓g_lt, ↓g_le, ↓g_gt, ↓g_ge, ↓g_eqI, ↓g_neI, ↓g_is, ↓g_isnt, ↓g_ixT, ↓g_ixL, ↓g_ixD, ↓gl_abs, ↓gl_max, ↓gl_min, ↓gl_int, ↓gl_intB, ↓gl_gcd, ↓gl_lenL, ↓gl_lenT, ↓gl_tupL, ↓gl_tupT, ↓gl_lstL, ↓gl_lstT, ↓gl_rep, ↓gl_sortD, ↓gl_sortL, ↓ngI, ↓slL, ↓slT, ↓slS, ↓bo, ↓io, ↓av0, ↓av1, ↓itL, ↓itT, ↓it0, ↓it1, ↓it2, ↓itB, ↓rtB, ↓rt_v, ↓g_ninI, ↓g_inI, ↓w_Lc, ↓w_LcM, ↓turn_nx, wipeL_cons, wipeL_nil, ↓sw0, ↓sw1, ↓sw2, ↓gix2, ↓app0, ↓app1, ↓app2, ↓appB, ↓isL0, ↓isL1, ↓isL2, ↓isLB, ↓isLv, ↓at_head, ↓v0, ↓v1, ↓v2, ↓v3, ↓v4, ↓v5, ↓v6, ↓v7, ↓v8, ↓v9, ↓v10, ↓v11, ↓v12, ↓v13, ↓v14, ↓v15, ↓v16, ↓v17, ↓t0, ↓t1, ↓t2, ↓t3, ↓t4, ↓t5, ↓t6, ↓t7, ↓t8, ↓setAll0, ↓setAll1, List.set_cons_zero, List.set_cons_succ, decide_eq_true_eq, Bool.not_eq_true', decide_eq_false_iff_not])
  refine ⟨rfl, w_over (by decide) (by decide) ?_⟩
  try (simp only [↓w_c, ↓w_e2, ↓we1', ↓p_v, ↓pr0, ↓pr1, ↓pr2, ↓pr3, ↓prA, ↓prB, ↓poL, ↓poD, ↓wB', ↓wt_N, ↓wt_An, ↓wt_Or, ↓wt_Ye, ↓w_Bo, ↓w_An, ↓w_Or, ↓w_If, ↓ws_If, ↓wa_Nil, ↓wa_Cons, ↓wTup', ↓wLst', ↓wLstM', ↓w_Dct, ↓w_DctM, ↓w_B, ↓w_Call, ↓wMt', ↓pl_nil, ↓pl_cons, ↓wc_P, ↓wc_M, ↓wSl', ↓wo_No, ↓woS', ↓wRlv, ↓wRlm, ↓ws_Nil, ↓ws_Cons, ↓then_nx, ↓then_rt, ↓ws_Asg, ↓wg_Nm, ↓wg_Tp, ↓wgs_Nil, ↓wgs_Cons, ↓wgSb', ↓ws_Par, ↓aug0, ↓aug1, ↓aug2, ↓aug3, ↓aug4, ↓aug5, ↓aug6, ↓aug7, ↓aug8, ↓aug9, ↓aug10, ↓aug11, ↓aug12, ↓aug13, ↓aug14, ↓aug15, ↓aug16, ↓aug17, ↓wAugS', ↓ws_Ret, ↓ws_RetT, ↓ws_Drop, ↓ws_For, ↓wSq', ↓wRg', ↓rg1, ↓rg2, ↓rg3, ↓rl1, ↓rl2, ↓rl3, ↓wEn', ↓enV, ↓wZp', ↓zpVV, ↓zpVB, ↓g_add, ↓g_addL, ↓g_addT, ↓g_iadd, ↓g_sub, ↓g_mul, ↓g_mulL, ↓g_fdiv, ↓g_mod, ↓g_pow, ↓g_lt, ↓g_le, ↓g_gt, ↓g_ge, ↓g_eqI, ↓g_neI, ↓g_is, ↓g_isnt, ↓g_ixT, ↓g_ixL, ↓g_ixD, ↓gl_abs, ↓gl_max, ↓gl_min, ↓gl_int, ↓gl_intB, ↓gl_gcd, ↓gl_lenL, ↓gl_lenT, ↓gl_tupL, ↓gl_tupT, ↓gl_lstL, ↓gl_lstT, ↓gl_rep, ↓gl_sortD, ↓gl_sortL, ↓ngI, ↓slL, ↓slT, ↓slS, ↓bo, ↓io, ↓av0, ↓av1, ↓itL, ↓itT, ↓it0, ↓it1, ↓it2, ↓itB, ↓rtB, ↓rt_v, ↓g_ninI, ↓g_inI, ↓w_Lc, ↓w_LcM, ↓turn_nx, wipeL_cons, wipeL_nil, ↓sw0, ↓sw1, ↓sw2, ↓gix2, ↓app0, ↓app1, ↓app2, ↓appB, ↓isL0, ↓isL1, ↓isL2, ↓isLB, ↓isLv, ↓at_head, ↓v0, ↓v1, ↓v2, ↓v3, ↓v4, ↓v5, ↓v6, ↓v7, ↓v8, ↓v9, ↓v10, ↓v11, ↓v12, ↓v13, ↓v14, ↓v15, ↓v16, ↓v17, ↓t0, ↓t1, ↓t2, ↓t3, ↓t4, ↓t5, ↓t6, ↓t7, ↓t8, ↓setAll0, ↓setAll1, List.set_cons_zero, List.set_cons_succ, decide_eq_true_eq, Bool.not_eq_true', decide_eq_false_iff_not])
  refine ⟨rfl, rfl, rfl, rfl, rfl, rfl, rfl, ?_⟩
  exact wind_some hB hc k
theorem tms_ok : ∀ (ss : List Scene) (o l : Int) (B : Int), (0 ≤ o ∧ o ≤ B) → (0 ≤ l ∧ l ≤ B) → (∀ s ∈ ss, s.Ok) → ∀ t ∈ tms o l ss, (0 ≤ t.o ∧ t.o ≤ B + 10100 * ss.length) ∧ (0 ≤ t.l ∧ t.l ≤ B + 10100 * ss.length) ∧ (0 ≤ t.a ∧ t.a ≤ B + 10100 * ss.length) ∧ 0 ≤ t.e ∧ t.e ≤ B + 10100 * ss.length
  | [], _, _, _, _, _, _, t, ht => by simp [tms] at ht
  | s :: ss, o, l, B, ho, hl, hs, t, ht => by
    have hso := hs s List.mem_cons_self
    have h1 := hso.t
    have h2 := hso.h
    have hlen : ((s :: ss).length : Int) = ss.length + 1 := by simp
    rcases List.mem_cons.mp ht with rfl | ht
    · rw [hlen]
      refine ⟨⟨ho.1, ?_⟩, ⟨hl.1, ?_⟩, ⟨?_, ?_⟩, ?_, ?_⟩
      · show o ≤ _
        omega
      · show l ≤ _
        omega
      · show 0 ≤ l + s.t
        omega
      · show l + s.t ≤ _
        omega
      · show 0 ≤ l + s.t + s.h
        omega
      · show l + s.t + s.h ≤ _
        omega
    · have := tms_ok ss (l + s.t) (l + s.t + s.h) (B + 10100) ⟨by omega, by omega⟩ ⟨by omega, by omega⟩ (fun q hq => hs q (List.mem_cons_of_mem _ hq)) t ht
      rw [hlen]
      omega
theorem need_ok {b : Bnd} (h : b.In) : 0 ≤ b.need ∧ b.need ≤ 50 := by
  have h1 := h.fl
  have h2 := h.ck
  have h3 := h.g
  have h4 := h.h
  unfold Bnd.need Bnd.lag
  omega
theorem tl_ok {s : Show} (h : s.Ok) : ∀ t ∈ s.tl, (0 ≤ t.o ∧ t.o ≤ 30000) ∧ (0 ≤ t.l ∧ t.l ≤ 30000) ∧ (0 ≤ t.a ∧ t.a ≤ 30000) ∧ 0 ≤ t.e ∧ t.e ≤ 30000 := by
  intro t ht
  have hn := need_ok h.b
  have := tms_ok s.sc 0 s.b.need 50 ⟨by decide, by decide⟩ hn h.sc.2 t ht
  have hl := h.sc.1
  omega
theorem tl_len (s : Show) : s.tl.length = s.sc.length := tms_length _ _ _
theorem tm_lay (ts : List Tm) : SeqAt.shaped (toD (.lst (ts.map Tm.v))) = true := by
  unfold SeqAt.shaped
  rw [Bool.and_eq_true, decide_eq_true_eq]
  constructor
  · show PyData.canLayAll0 (toDL (ts.map Tm.v)) = true
    refine layL_of fun x hx => ?_
    obtain ⟨t, _, rfl⟩ := List.mem_map.mp hx
    rfl
  · refine Nat.le_trans (dep_le _) ?_
    show depL (ts.map Tm.v) + 1 ≤ 64
    have : depL (ts.map Tm.v) ≤ 1 := depL_of fun x hx => by
      obtain ⟨t, _, rfl⟩ := List.mem_map.mp hx
      exact Nat.le_refl _
    omega
theorem w_writing {S : Sto} {s : Show} {i : Nat} {Q : RV → Sto → Prop} (hs : s.Ok) (hi : i < s.sc.length) (k : ∀ z : Int, -100 ≤ z → z ≤ 40000 → Q (.v (.int z)) S) : WC c__law_writing [.v s.v, .v (.int i)] S Q := by
  refine wc_d rfl ?_
  unfold m__law_writing d__law_writing_1
  show W _ [some (.v s.v), some (.v (.int i)), none] _ _
  unfold Show.v
  simp only [↓w_c, ↓w_e2, ↓we1', ↓p_v, ↓pr0, ↓pr1, ↓pr2, ↓pr3, ↓prA, ↓prB, ↓poL, ↓poD, ↓wB', ↓wt_N, ↓wt_An, ↓wt_Or, ↓wt_Ye, ↓w_Bo, ↓w_An, ↓w_Or, ↓w_If, ↓ws_If, ↓wa_Nil, ↓wa_Cons, ↓wTup', ↓wLst', ↓wLstM', ↓w_Dct, ↓w_DctM, ↓w_B, ↓w_Call, ↓wMt', ↓pl_nil, ↓pl_cons, ↓wc_P, ↓wc_M, ↓wSl', ↓wo_No, ↓woS', ↓wRlv, ↓wRlm, ↓ws_Nil, ↓ws_Cons, ↓then_nx, ↓then_rt, ↓ws_Asg, ↓wg_Nm, ↓wg_Tp, ↓wgs_Nil, ↓wgs_Cons, ↓wgSb', ↓ws_Par, ↓aug0, ↓aug1, ↓aug2, ↓aug3, ↓aug4, ↓aug5, ↓aug6, ↓aug7, ↓aug8, ↓aug9, ↓aug10, ↓aug11, ↓aug12, ↓aug13, ↓aug14, ↓aug15, ↓aug16, ↓aug17, ↓wAugS', ↓ws_Ret, ↓ws_RetT, ↓ws_Drop, ↓ws_For, ↓wSq', ↓wRg', ↓rg1, ↓rg2, ↓rg3, ↓rl1, ↓rl2, ↓rl3, ↓wEn', ↓enV, ↓wZp', ↓zpVV, ↓zpVB, ↓g_add, ↓g_addL, ↓g_addT, ↓g_iadd, ↓g_sub, ↓g_mul, ↓g_mulL, ↓g_fdiv, ↓g_mod, ↓g_pow, ↓g_lt, ↓g_le, ↓g_gt, ↓g_ge, ↓g_eqI, ↓g_neI, ↓g_is, ↓g_isnt, ↓g_ixT, ↓g_ixL, ↓g_ixD, ↓gl_abs, ↓gl_max, ↓gl_min, ↓gl_int, ↓gl_intB, ↓gl_gcd, ↓gl_lenL, ↓gl_lenT, ↓gl_tupL, ↓gl_tupT, ↓gl_lstL, ↓gl_lstT, ↓gl_rep, ↓gl_sortD, ↓gl_sortL, ↓ngI, ↓slL, ↓slT, ↓slS, ↓bo, ↓io, ↓av0, ↓av1, ↓itL, ↓itT, ↓it0, ↓it1, ↓it2, ↓itB, ↓rtB, ↓rt_v, ↓g_ninI, ↓g_inI, ↓w_Lc, ↓w_LcM, ↓turn_nx, wipeL_cons, wipeL_nil, ↓sw0, ↓sw1, ↓sw2, ↓gix2, ↓app0, ↓app1, ↓app2, ↓appB, ↓isL0, ↓isL1, ↓isL2, ↓isLB, ↓isLv, ↓at_head, ↓v0, ↓v1, ↓v2, ↓v3, ↓v4, ↓v5, ↓v6, ↓v7, ↓v8, ↓v9, ↓v10, ↓v11, ↓v12, ↓v13, ↓v14, ↓v15, ↓v16, ↓v17, ↓t0, ↓t1, ↓t2, ↓t3, ↓t4, ↓t5, ↓t6, ↓t7, ↓t8, ↓setAll0, ↓setAll1, List.set_cons_zero, List.set_cons_succ, decide_eq_true_eq, Bool.not_eq_true', decide_eq_false_iff_not]
  refine ⟨rfl, w_times hs.sc.1.2 ?_⟩
  have hi' : i < (s.tl.map Tm.v).length := by rw [List.length_map, tl_len]; exact hi
  have hat : atI (s.tl.map Tm.v) (i : Int) = some ((s.tl[i]'(by rw [tl_len]; exact hi)).v) := by
    rw [Dn.atI_nat, List.getElem?_map, List.getElem?_eq_getElem (by rw [tl_len]; exact hi)]
    rfl
  have ht := tl_ok hs _ (List.getElem_mem (l := s.tl) (n := i) (by rw [tl_len]; exact hi))
  generalize s.tl[i]'(by rw [tl_len]; exact hi) = t at hat ht
  simp only [↓w_c, ↓w_e2, ↓we1', ↓p_v, ↓pr0, ↓pr1, ↓pr2, ↓pr3, ↓prA, ↓prB, ↓poL, ↓poD, ↓wB', ↓wt_N, ↓wt_An, ↓wt_Or, ↓wt_Ye, ↓w_Bo, ↓w_An, ↓w_Or, ↓w_If, ↓ws_If, ↓wa_Nil, ↓wa_Cons, ↓wTup', ↓wLst', ↓wLstM', ↓w_Dct, ↓w_DctM, ↓w_B, ↓w_Call, ↓wMt', ↓pl_nil, ↓pl_cons, ↓wc_P, ↓wc_M, ↓wSl', ↓wo_No, ↓woS', ↓wRlv, ↓wRlm, ↓ws_Nil, ↓ws_Cons, ↓then_nx, ↓then_rt, ↓ws_Asg, ↓wg_Nm, ↓wg_Tp, ↓wgs_Nil, ↓wgs_Cons, ↓wgSb', ↓ws_Par, ↓aug0, ↓aug1, ↓aug2, ↓aug3, ↓aug4, ↓aug5, ↓aug6, ↓aug7, ↓aug8, ↓aug9, ↓aug10, ↓aug11, ↓aug12, ↓aug13, ↓aug14, ↓aug15, ↓aug16, ↓aug17, ↓wAugS', ↓ws_Ret, ↓ws_RetT, ↓ws_Drop, ↓ws_For, ↓wSq', ↓wRg', ↓rg1, ↓rg2, ↓rg3, ↓rl1, ↓rl2, ↓rl3, ↓wEn', ↓enV, ↓wZp', ↓zpVV, ↓zpVB, ↓g_add, ↓g_addL, ↓g_addT, ↓g_iadd, ↓g_sub, ↓g_mul, ↓g_mulL, ↓g_fdiv, ↓g_mod, ↓g_pow, ↓g_lt, ↓g_le, ↓g_gt, ↓g_ge, ↓g_eqI, ↓g_neI, ↓g_is, ↓g_isnt, ↓g_ixT, ↓g_ixL, ↓g_ixD, ↓gl_abs, ↓gl_max, ↓gl_min, ↓gl_int, ↓gl_intB, ↓gl_gcd, ↓gl_lenL, ↓gl_lenT, ↓gl_tupL, ↓gl_tupT, ↓gl_lstL, ↓gl_lstT, ↓gl_rep, ↓gl_sortD, ↓gl_sortL, ↓ngI, ↓slL, ↓slT, ↓slS, ↓bo, ↓io, ↓av0, ↓av1, ↓itL, ↓itT, ↓it0, ↓it1, ↓it2, ↓itB, ↓rtB, ↓rt_v, ↓g_ninI, ↓g_inI, ↓w_Lc, ↓w_LcM, ↓turn_nx, wipeL_cons, wipeL_nil, ↓sw0, ↓sw1, ↓sw2, ↓gix2, ↓app0, ↓app1, ↓app2, ↓appB, ↓isL0, ↓isL1, ↓isL2, ↓isLB, ↓isLv, ↓at_head, ↓v0, ↓v1, ↓v2, ↓v3, ↓v4, ↓v5, ↓v6, ↓v7, ↓v8, ↓v9, ↓v10, ↓v11, ↓v12, ↓v13, ↓v14, ↓v15, ↓v16, ↓v17, ↓t0, ↓t1, ↓t2, ↓t3, ↓t4, ↓t5, ↓t6, ↓t7, ↓t8, ↓setAll0, ↓setAll1, List.set_cons_zero, List.set_cons_succ, decide_eq_true_eq, Bool.not_eq_true', decide_eq_false_iff_not]
  refine (at_of hat).mpr ?_
  unfold Tm.v
  simp only [↓w_c, ↓w_e2, ↓we1', ↓p_v, ↓pr0, ↓pr1, ↓pr2, ↓pr3, ↓prA, ↓prB, ↓poL, ↓poD, ↓wB', ↓wt_N, ↓wt_An, ↓wt_Or, ↓wt_Ye, ↓w_Bo, ↓w_An, ↓w_Or, ↓w_If, ↓ws_If, ↓wa_Nil, ↓wa_Cons, ↓wTup', ↓wLst', ↓wLstM', ↓w_Dct, ↓w_DctM, ↓w_B, ↓w_Call, ↓wMt', ↓pl_nil, ↓pl_cons, ↓wc_P, ↓wc_M, ↓wSl', ↓wo_No, ↓woS', ↓wRlv, ↓wRlm, ↓ws_Nil, ↓ws_Cons, ↓then_nx, ↓then_rt, ↓ws_Asg, ↓wg_Nm, ↓wg_Tp, ↓wgs_Nil, ↓wgs_Cons, ↓wgSb', ↓ws_Par, ↓aug0, ↓aug1, ↓aug2, ↓aug3, ↓aug4, ↓aug5, ↓aug6, ↓aug7, ↓aug8, ↓aug9, ↓aug10, ↓aug11, ↓aug12, ↓aug13, ↓aug14, ↓aug15, ↓aug16, ↓aug17, ↓wAugS', ↓ws_Ret, ↓ws_RetT, ↓ws_Drop, ↓ws_For, ↓wSq', ↓wRg', ↓rg1, ↓rg2, ↓rg3, ↓rl1, ↓rl2, ↓rl3, ↓wEn', ↓enV, ↓wZp', ↓zpVV, ↓zpVB, ↓g_add, ↓g_addL, ↓g_addT, ↓g_iadd, ↓g_sub, ↓g_mul, ↓g_mulL, ↓g_fdiv, ↓g_mod, ↓g_pow, ↓g_lt, ↓g_le, ↓g_gt, ↓g_ge, ↓g_eqI, ↓g_neI, ↓g_is, ↓g_isnt, ↓g_ixT, ↓g_ixL, ↓g_ixD, ↓gl_abs, ↓gl_max, ↓gl_min, ↓gl_int, ↓gl_intB, ↓gl_gcd, ↓gl_lenL, ↓gl_lenT, ↓gl_tupL, ↓gl_tupT, ↓gl_lstL, ↓gl_lstT, ↓gl_rep, ↓gl_sortD, ↓gl_sortL, ↓ngI, ↓slL, ↓slT, ↓slS, ↓bo, ↓io, ↓av0, ↓av1, ↓itL, ↓itT, ↓it0, ↓it1, ↓it2, ↓itB, ↓rtB, ↓rt_v, ↓g_ninI, ↓g_inI, ↓w_Lc, ↓w_LcM, ↓turn_nx, wipeL_cons, wipeL_nil, ↓sw0, ↓sw1, ↓sw2, ↓gix2, ↓app0, ↓app1, ↓app2, ↓appB, ↓isL0, ↓isL1, ↓isL2, ↓isLB, ↓isLv, ↓at_head, ↓v0, ↓v1, ↓v2, ↓v3, ↓v4, ↓v5, ↓v6, ↓v7, ↓v8, ↓v9, ↓v10, ↓v11, ↓v12, ↓v13, ↓v14, ↓v15, ↓v16, ↓v17, ↓t0, ↓t1, ↓t2, ↓t3, ↓t4, ↓t5, ↓t6, ↓t7, ↓t8, ↓setAll0, ↓setAll1, List.set_cons_zero, List.set_cons_succ, decide_eq_true_eq, Bool.not_eq_true', decide_eq_false_iff_not]
  refine ⟨rfl, w_lag ?_⟩
  unfold Bnd.v
  simp only [↓w_c, ↓w_e2, ↓we1', ↓p_v, ↓pr0, ↓pr1, ↓pr2, ↓pr3, ↓prA, ↓prB, ↓poL, ↓poD, ↓wB', ↓wt_N, ↓wt_An, ↓wt_Or, ↓wt_Ye, ↓w_Bo, ↓w_An, ↓w_Or, ↓w_If, ↓ws_If, ↓wa_Nil, ↓wa_Cons, ↓wTup', ↓wLst', ↓wLstM', ↓w_Dct, ↓w_DctM, ↓w_B, ↓w_Call, ↓wMt', ↓pl_nil, ↓pl_cons, ↓wc_P, ↓wc_M, ↓wSl', ↓wo_No, ↓woS', ↓wRlv, ↓wRlm, ↓ws_Nil, ↓ws_Cons, ↓then_nx, ↓then_rt, ↓ws_Asg, ↓wg_Nm, ↓wg_Tp, ↓wgs_Nil, ↓wgs_Cons, ↓wgSb', ↓ws_Par, ↓aug0, ↓aug1, ↓aug2, ↓aug3, ↓aug4, ↓aug5, ↓aug6, ↓aug7, ↓aug8, ↓aug9, ↓aug10, ↓aug11, ↓aug12, ↓aug13, ↓aug14, ↓aug15, ↓aug16, ↓aug17, ↓wAugS', ↓ws_Ret, ↓ws_RetT, ↓ws_Drop, ↓ws_For, ↓wSq', ↓wRg', ↓rg1, ↓rg2, ↓rg3, ↓rl1, ↓rl2, ↓rl3, ↓wEn', ↓enV, ↓wZp', ↓zpVV, ↓zpVB, ↓g_add, ↓g_addL, ↓g_addT, ↓g_iadd, ↓g_sub, ↓g_mul, ↓g_mulL, ↓g_fdiv, ↓g_mod, ↓g_pow, ↓g_lt, ↓g_le, ↓g_gt, ↓g_ge, ↓g_eqI, ↓g_neI, ↓g_is, ↓g_isnt, ↓g_ixT, ↓g_ixL, ↓g_ixD, ↓gl_abs, ↓gl_max, ↓gl_min, ↓gl_int, ↓gl_intB, ↓gl_gcd, ↓gl_lenL, ↓gl_lenT, ↓gl_tupL, ↓gl_tupT, ↓gl_lstL, ↓gl_lstT, ↓gl_rep, ↓gl_sortD, ↓gl_sortL, ↓ngI, ↓slL, ↓slT, ↓slS, ↓bo, ↓io, ↓av0, ↓av1, ↓itL, ↓itT, ↓it0, ↓it1, ↓it2, ↓itB, ↓rtB, ↓rt_v, ↓g_ninI, ↓g_inI, ↓w_Lc, ↓w_LcM, ↓turn_nx, wipeL_cons, wipeL_nil, ↓sw0, ↓sw1, ↓sw2, ↓gix2, ↓app0, ↓app1, ↓app2, ↓appB, ↓isL0, ↓isL1, ↓isL2, ↓isLB, ↓isLv, ↓at_head, ↓v0, ↓v1, ↓v2, ↓v3, ↓v4, ↓v5, ↓v6, ↓v7, ↓v8, ↓v9, ↓v10, ↓v11, ↓v12, ↓v13, ↓v14, ↓v15, ↓v16, ↓v17, ↓t0, ↓t1, ↓t2, ↓t3, ↓t4, ↓t5, ↓t6, ↓t7, ↓t8, ↓setAll0, ↓setAll1, List.set_cons_zero, List.set_cons_succ, decide_eq_true_eq, Bool.not_eq_true', decide_eq_false_iff_not]
  refine end0 (k _ ?_ ?_)
  · have h1 := hs.b.fl
    have h2 := hs.b.ck
    have h3 := hs.b.g
    have h4 := hs.b.h
    unfold Bnd.lag
    omega
  · have h1 := hs.b.fl
    have h2 := hs.b.ck
    have h3 := hs.b.g
    have h4 := hs.b.h
    unfold Bnd.lag
    omega
end K61

namespace K61
open PySem PySem.Spec PyProof.Rows L2 Dn
theorem sum_ok {x y : Fr} (hx : x.n.natAbs ≤ 2 ^ 20) (hx1 : 1 ≤ x.d ∧ x.d ≤ 10) (hy : y.n.natAbs ≤ 2 ^ 20) (hy1 : 1 ≤ y.d ∧ y.d ≤ 10) : (x.sum y).Ok := by
  have p := Int.mul_pos (show 0 < x.d by omega) (show 0 < y.d by omega)
  have r : x.d * y.d ≤ 10 * 10 := Int.mul_le_mul hx1.2 hy1.2 (by omega) (by decide)
  refine ovr_ok ?_ (by omega) (by omega)
  have a1 : Bd (2 ^ 20) x.n := hx
  have a2 : Bd (2 ^ 20) y.n := hy
  have b1 : Bd 10 x.d := Bd.of (by omega) (by omega)
  have b2 : Bd 10 y.d := Bd.of (by omega) (by omega)
  have := (a1.mul b2).add (a2.mul b1)
  unfold Bd at this
  omega
theorem at_last {xs : List PV} {Q : PV → Prop} (h : xs ≠ []) (k : ∀ x ∈ xs, Q x) : AT xs (-1) Q := by
  have hp := List.length_pos_iff.mpr h
  have e : atI xs (-1) = some (xs[xs.length - 1]'(by omega)) := by
    unfold atI ixN
    rw [if_neg (by decide), if_pos (by omega)]
    show xs[(-1 + (xs.length : Int)).toNat]? = _
    rw [show (-1 + (xs.length : Int)).toNat = xs.length - 1 by omega]
    exact List.getElem?_eq_getElem (by omega)
  exact (at_of e).mpr (k _ (List.getElem_mem _))
theorem w_moment {R : Sto} {o : SO} {s : Show} {Q : RV → Sto → Prop} (hB : BagO o) (hs : s.Ok) (k : ∀ (f : Fr) o', f.Ok → BagO o' → Q (.v f.v) (o' :: R)) : WC c__law_moment [.ref 0, .v s.v] (o :: R) Q := by
  refine wc_d rfl ?_
  unfold m__law_moment d__law_moment_1
  show W _ [some (.ref 0), some (.v s.v), none, none, none, none, none, none, none, none, none, none] _ _
  simp only [↓w_c, ↓w_e2, ↓we1', ↓p_v, ↓pr0, ↓pr1, ↓pr2, ↓pr3, ↓prA, ↓prB, ↓poL, ↓poD, ↓wB', ↓wt_N, ↓wt_An, ↓wt_Or, ↓wt_Ye, ↓w_Bo, ↓w_An, ↓w_Or, ↓w_If, ↓ws_If, ↓wa_Nil, ↓wa_Cons, ↓wTup', ↓wLst', ↓wLstM', ↓w_Dct, ↓w_DctM, ↓w_B, ↓w_Call, ↓wMt', ↓pl_nil, ↓pl_cons, ↓wc_P, ↓wc_M, ↓wSl', ↓wo_No, ↓woS', ↓wRlv, ↓wRlm, ↓ws_Nil, ↓ws_Cons, ↓then_nx, ↓then_rt, ↓ws_Asg, ↓wg_Nm, ↓wg_Tp, ↓wgs_Nil, ↓wgs_Cons, ↓wgSb', ↓ws_Par, ↓aug0, ↓aug1, ↓aug2, ↓aug3, ↓aug4, ↓aug5, ↓aug6, ↓aug7, ↓aug8, ↓aug9, ↓aug10, ↓aug11, ↓aug12, ↓aug13, ↓aug14, ↓aug15, ↓aug16, ↓aug17, ↓wAugS', ↓ws_Ret, ↓ws_RetT, ↓ws_Drop, ↓ws_For, ↓wSq', ↓wRg', ↓rg1, ↓rg2, ↓rg3, ↓rl1, ↓rl2, ↓rl3, ↓wEn', ↓enV, ↓wZp', ↓zpVV, ↓zpVB, ↓g_add, ↓g_addL, ↓g_addT, ↓g_iadd, ↓g_sub, ↓g_mul, ↓g_mulL, ↓g_fdiv, ↓g_mod, ↓g_pow, ↓g_lt, ↓g_le, ↓g_gt, ↓g_ge, ↓g_eqI, ↓g_neI, ↓g_is, ↓g_isnt, ↓g_ixT, ↓g_ixL, ↓g_ixD, ↓gl_abs, ↓gl_max, ↓gl_min, ↓gl_int, ↓gl_intB, ↓gl_gcd, ↓gl_lenL, ↓gl_lenT, ↓gl_tupL, ↓gl_tupT, ↓gl_lstL, ↓gl_lstT, ↓gl_rep, ↓gl_sortD, ↓gl_sortL, ↓ngI, ↓slL, ↓slT, ↓slS, ↓bo, ↓io, ↓av0, ↓av1, ↓itL, ↓itT, ↓it0, ↓it1, ↓it2, ↓itB, ↓rtB, ↓rt_v, ↓g_ninI, ↓g_inI, ↓w_Lc, ↓w_LcM, ↓turn_nx, wipeL_cons, wipeL_nil, ↓sw0, ↓sw1, ↓sw2, ↓gix2, ↓app0, ↓app1, ↓app2, ↓appB, ↓isL0, ↓isL1, ↓isL2, ↓isLB, ↓isLv, ↓at_head, ↓v0, ↓v1, ↓v2, ↓v3, ↓v4, ↓v5, ↓v6, ↓v7, ↓v8, ↓v9, ↓v10, ↓v11, ↓v12, ↓v13, ↓v14, ↓v15, ↓v16, ↓v17, ↓t0, ↓t1, ↓t2, ↓t3, ↓t4, ↓t5, ↓t6, ↓t7, ↓t8, ↓setAll0, ↓setAll1, List.set_cons_zero, List.set_cons_succ, decide_eq_true_eq, Bool.not_eq_true', decide_eq_false_iff_not]
  refine ⟨rfl, w_times hs.sc.1.2 ?_⟩
  try (simp only [↓w_c, ↓w_e2, ↓we1', ↓p_v, ↓pr0, ↓pr1, ↓pr2, ↓pr3, ↓prA, ↓prB, ↓poL, ↓poD, ↓wB', ↓wt_N, ↓wt_An, ↓wt_Or, ↓wt_Ye, ↓w_Bo, ↓w_An, ↓w_Or, ↓w_If, ↓ws_If, ↓wa_Nil, ↓wa_Cons, ↓wTup', ↓wLst', ↓wLstM', ↓w_Dct, ↓w_DctM, ↓w_B, ↓w_Call, ↓wMt', ↓pl_nil, ↓pl_cons, ↓wc_P, ↓wc_M, ↓wSl', ↓wo_No, ↓woS', ↓wRlv, ↓wRlm, ↓ws_Nil, ↓ws_Cons, ↓then_nx, ↓then_rt, ↓ws_Asg, ↓wg_Nm, ↓wg_Tp, ↓wgs_Nil, ↓wgs_Cons, ↓wgSb', ↓ws_Par, ↓aug0, ↓aug1, ↓aug2, ↓aug3, ↓aug4, ↓aug5, ↓aug6, ↓aug7, ↓aug8, ↓aug9, ↓aug10, ↓aug11, ↓aug12, ↓aug13, ↓aug14, ↓aug15, ↓aug16, ↓aug17, ↓wAugS', ↓ws_Ret, ↓ws_RetT, ↓ws_Drop, ↓ws_For, ↓wSq', ↓wRg', ↓rg1, ↓rg2, ↓rg3, ↓rl1, ↓rl2, ↓rl3, ↓wEn', ↓enV, ↓wZp', ↓zpVV, ↓zpVB, ↓g_add, ↓g_addL, ↓g_addT, ↓g_iadd, ↓g_sub, ↓g_mul, ↓g_mulL, ↓g_fdiv, ↓g_mod, ↓g_pow, ↓g_lt, ↓g_le, ↓g_gt, ↓g_ge, ↓g_eqI, ↓g_neI, ↓g_is, ↓g_isnt, ↓g_ixT, ↓g_ixL, ↓g_ixD, ↓gl_abs, ↓gl_max, ↓gl_min, ↓gl_int, ↓gl_intB, ↓gl_gcd, ↓gl_lenL, ↓gl_lenT, ↓gl_tupL, ↓gl_tupT, ↓gl_lstL, ↓gl_lstT, ↓gl_rep, ↓gl_sortD, ↓gl_sortL, ↓ngI, ↓slL, ↓slT, ↓slS, ↓bo, ↓io, ↓av0, ↓av1, ↓itL, ↓itT, ↓it0, ↓it1, ↓it2, ↓itB, ↓rtB, ↓rt_v, ↓g_ninI, ↓g_inI, ↓w_Lc, ↓w_LcM, ↓turn_nx, wipeL_cons, wipeL_nil, ↓sw0, ↓sw1, ↓sw2, ↓gix2, ↓app0, ↓app1, ↓app2, ↓appB, ↓isL0, ↓isL1, ↓isL2, ↓isLB, ↓isLv, ↓at_head, ↓v0, ↓v1, ↓v2, ↓v3, ↓v4, ↓v5, ↓v6, ↓v7, ↓v8, ↓v9, ↓v10, ↓v11, ↓v12, ↓v13, ↓v14, ↓v15, ↓v16, ↓v17, ↓t0, ↓t1, ↓t2, ↓t3, ↓t4, ↓t5, ↓t6, ↓t7, ↓t8, ↓setAll0, ↓setAll1, List.set_cons_zero, List.set_cons_succ, decide_eq_true_eq, Bool.not_eq_true', decide_eq_false_iff_not])
  have hm : ∀ x ∈ s.tl.map Tm.v, ∃ t : Tm, x = t.v ∧ (0 ≤ t.o ∧ t.o ≤ 30000) ∧ (0 ≤ t.l ∧ t.l ≤ 30000) ∧ (0 ≤ t.a ∧ t.a ≤ 30000) ∧ 0 ≤ t.e ∧ t.e ≤ 30000 := by
    intro x hx
    obtain ⟨t, ht, rfl⟩ := List.mem_map.mp hx
    exact ⟨t, rfl, tl_ok hs t ht⟩
  have hlay := tm_lay s.tl
  have hlen : (s.tl.map Tm.v).length = s.sc.length := by rw [List.length_map, tl_len]
  have hsc := hs.sc.1
  generalize s.tl.map Tm.v = L at hm hlay hlen
  have hne : L ≠ [] := by
    rintro rfl
    have h3 : ([] : List PV).length = 0 := rfl
    omega
  refine ⟨rfl, w_some hB hne (by omega) fun x o1 hx hB1 => ?_⟩
  obtain ⟨t, rfl, hto⟩ := hm x hx
  unfold d__law_moment_2 d__law_moment_3
  unfold Tm.v
  try (simp only [↓w_c, ↓w_e2, ↓we1', ↓p_v, ↓pr0, ↓pr1, ↓pr2, ↓pr3, ↓prA, ↓prB, ↓poL, ↓poD, ↓wB', ↓wt_N, ↓wt_An, ↓wt_Or, ↓wt_Ye, ↓w_Bo, ↓w_An, ↓w_Or, ↓w_If, ↓ws_If, ↓wa_Nil, ↓wa_Cons, ↓wTup', ↓wLst', ↓wLstM', ↓w_Dct, ↓w_DctM, ↓w_B, ↓w_Call, ↓wMt', ↓pl_nil, ↓pl_cons, ↓wc_P, ↓wc_M, ↓wSl', ↓wo_No, ↓woS', ↓wRlv, ↓wRlm, ↓ws_Nil, ↓ws_Cons, ↓then_nx, ↓then_rt, ↓ws_Asg, ↓wg_Nm, ↓wg_Tp, ↓wgs_Nil, ↓wgs_Cons, ↓wgSb', ↓ws_Par, ↓aug0, ↓aug1, ↓aug2, ↓aug3, ↓aug4, ↓aug5, ↓aug6, ↓aug7, ↓aug8, ↓aug9, ↓aug10, ↓aug11, ↓aug12, ↓aug13, ↓aug14, ↓aug15, ↓aug16, ↓aug17, ↓wAugS', ↓ws_Ret, ↓ws_RetT, ↓ws_Drop, ↓ws_For, ↓wSq', ↓wRg', ↓rg1, ↓rg2, ↓rg3, ↓rl1, ↓rl2, ↓rl3, ↓wEn', ↓enV, ↓wZp', ↓zpVV, ↓zpVB, ↓g_add, ↓g_addL, ↓g_addT, ↓g_iadd, ↓g_sub, ↓g_mul, ↓g_mulL, ↓g_fdiv, ↓g_mod, ↓g_pow, ↓g_lt, ↓g_le, ↓g_gt, ↓g_ge, ↓g_eqI, ↓g_neI, ↓g_is, ↓g_isnt, ↓g_ixT, ↓g_ixL, ↓g_ixD, ↓gl_abs, ↓gl_max, ↓gl_min, ↓gl_int, ↓gl_intB, ↓gl_gcd, ↓gl_lenL, ↓gl_lenT, ↓gl_tupL, ↓gl_tupT, ↓gl_lstL, ↓gl_lstT, ↓gl_rep, ↓gl_sortD, ↓gl_sortL, ↓ngI, ↓slL, ↓slT, ↓slS, ↓bo, ↓io, ↓av0, ↓av1, ↓itL, ↓itT, ↓it0, ↓it1, ↓it2, ↓itB, ↓rtB, ↓rt_v, ↓g_ninI, ↓g_inI, ↓w_Lc, ↓w_LcM, ↓turn_nx, wipeL_cons, wipeL_nil, ↓sw0, ↓sw1, ↓sw2, ↓gix2, ↓app0, ↓app1, ↓app2, ↓appB, ↓isL0, ↓isL1, ↓isL2, ↓isLB, ↓isLv, ↓at_head, ↓v0, ↓v1, ↓v2, ↓v3, ↓v4, ↓v5, ↓v6, ↓v7, ↓v8, ↓v9, ↓v10, ↓v11, ↓v12, ↓v13, ↓v14, ↓v15, ↓v16, ↓v17, ↓t0, ↓t1, ↓t2, ↓t3, ↓t4, ↓t5, ↓t6, ↓t7, ↓t8, ↓setAll0, ↓setAll1, List.set_cons_zero, List.set_cons_succ, decide_eq_true_eq, Bool.not_eq_true', decide_eq_false_iff_not])
  refine ⟨rfl, trivial, rfl, ?_⟩
  refine idx_v hlay ?_ rfl hx fun i hi => ?_
  · rfl
  try (simp only [↓w_c, ↓w_e2, ↓we1', ↓p_v, ↓pr0, ↓pr1, ↓pr2, ↓pr3, ↓prA, ↓prB, ↓poL, ↓poD, ↓wB', ↓wt_N, ↓wt_An, ↓wt_Or, ↓wt_Ye, ↓w_Bo, ↓w_An, ↓w_Or, ↓w_If, ↓ws_If, ↓wa_Nil, ↓wa_Cons, ↓wTup', ↓wLst', ↓wLstM', ↓w_Dct, ↓w_DctM, ↓w_B, ↓w_Call, ↓wMt', ↓pl_nil, ↓pl_cons, ↓wc_P, ↓wc_M, ↓wSl', ↓wo_No, ↓woS', ↓wRlv, ↓wRlm, ↓ws_Nil, ↓ws_Cons, ↓then_nx, ↓then_rt, ↓ws_Asg, ↓wg_Nm, ↓wg_Tp, ↓wgs_Nil, ↓wgs_Cons, ↓wgSb', ↓ws_Par, ↓aug0, ↓aug1, ↓aug2, ↓aug3, ↓aug4, ↓aug5, ↓aug6, ↓aug7, ↓aug8, ↓aug9, ↓aug10, ↓aug11, ↓aug12, ↓aug13, ↓aug14, ↓aug15, ↓aug16, ↓aug17, ↓wAugS', ↓ws_Ret, ↓ws_RetT, ↓ws_Drop, ↓ws_For, ↓wSq', ↓wRg', ↓rg1, ↓rg2, ↓rg3, ↓rl1, ↓rl2, ↓rl3, ↓wEn', ↓enV, ↓wZp', ↓zpVV, ↓zpVB, ↓g_add, ↓g_addL, ↓g_addT, ↓g_iadd, ↓g_sub, ↓g_mul, ↓g_mulL, ↓g_fdiv, ↓g_mod, ↓g_pow, ↓g_lt, ↓g_le, ↓g_gt, ↓g_ge, ↓g_eqI, ↓g_neI, ↓g_is, ↓g_isnt, ↓g_ixT, ↓g_ixL, ↓g_ixD, ↓gl_abs, ↓gl_max, ↓gl_min, ↓gl_int, ↓gl_intB, ↓gl_gcd, ↓gl_lenL, ↓gl_lenT, ↓gl_tupL, ↓gl_tupT, ↓gl_lstL, ↓gl_lstT, ↓gl_rep, ↓gl_sortD, ↓gl_sortL, ↓ngI, ↓slL, ↓slT, ↓slS, ↓bo, ↓io, ↓av0, ↓av1, ↓itL, ↓itT, ↓it0, ↓it1, ↓it2, ↓itB, ↓rtB, ↓rt_v, ↓g_ninI, ↓g_inI, ↓w_Lc, ↓w_LcM, ↓turn_nx, wipeL_cons, wipeL_nil, ↓sw0, ↓sw1, ↓sw2, ↓gix2, ↓app0, ↓app1, ↓app2, ↓appB, ↓isL0, ↓isL1, ↓isL2, ↓isLB, ↓isLv, ↓at_head, ↓v0, ↓v1, ↓v2, ↓v3, ↓v4, ↓v5, ↓v6, ↓v7, ↓v8, ↓v9, ↓v10, ↓v11, ↓v12, ↓v13, ↓v14, ↓v15, ↓v16, ↓v17, ↓t0, ↓t1, ↓t2, ↓t3, ↓t4, ↓t5, ↓t6, ↓t7, ↓t8, ↓setAll0, ↓setAll1, List.set_cons_zero, List.set_cons_succ, decide_eq_true_eq, Bool.not_eq_true', decide_eq_false_iff_not])
  refine ⟨rfl, w_writing hs (by omega) fun z z0 z1 => ⟨div_ok (by decide) (by decide), ?_⟩⟩
  have hfl := hs.b.fl
  have hck := hs.b.ck
  unfold d__law_moment_4 d__law_moment_5 d__law_moment_6 d__law_moment_7 Show.v Bnd.v
  try (simp only [↓w_c, ↓w_e2, ↓we1', ↓p_v, ↓pr0, ↓pr1, ↓pr2, ↓pr3, ↓prA, ↓prB, ↓poL, ↓poD, ↓wB', ↓wt_N, ↓wt_An, ↓wt_Or, ↓wt_Ye, ↓w_Bo, ↓w_An, ↓w_Or, ↓w_If, ↓ws_If, ↓wa_Nil, ↓wa_Cons, ↓wTup', ↓wLst', ↓wLstM', ↓w_Dct, ↓w_DctM, ↓w_B, ↓w_Call, ↓wMt', ↓pl_nil, ↓pl_cons, ↓wc_P, ↓wc_M, ↓wSl', ↓wo_No, ↓woS', ↓wRlv, ↓wRlm, ↓ws_Nil, ↓ws_Cons, ↓then_nx, ↓then_rt, ↓ws_Asg, ↓wg_Nm, ↓wg_Tp, ↓wgs_Nil, ↓wgs_Cons, ↓wgSb', ↓ws_Par, ↓aug0, ↓aug1, ↓aug2, ↓aug3, ↓aug4, ↓aug5, ↓aug6, ↓aug7, ↓aug8, ↓aug9, ↓aug10, ↓aug11, ↓aug12, ↓aug13, ↓aug14, ↓aug15, ↓aug16, ↓aug17, ↓wAugS', ↓ws_Ret, ↓ws_RetT, ↓ws_Drop, ↓ws_For, ↓wSq', ↓wRg', ↓rg1, ↓rg2, ↓rg3, ↓rl1, ↓rl2, ↓rl3, ↓wEn', ↓enV, ↓wZp', ↓zpVV, ↓zpVB, ↓g_add, ↓g_addL, ↓g_addT, ↓g_iadd, ↓g_sub, ↓g_mul, ↓g_mulL, ↓g_fdiv, ↓g_mod, ↓g_pow, ↓g_lt, ↓g_le, ↓g_gt, ↓g_ge, ↓g_eqI, ↓g_neI, ↓g_is, ↓g_isnt, ↓g_ixT, ↓g_ixL, ↓g_ixD, ↓gl_abs, ↓gl_max, ↓gl_min, ↓gl_int, ↓gl_intB, ↓gl_gcd, ↓gl_lenL, ↓gl_lenT, ↓gl_tupL, ↓gl_tupT, ↓gl_lstL, ↓gl_lstT, ↓gl_rep, ↓gl_sortD, ↓gl_sortL, ↓ngI, ↓slL, ↓slT, ↓slS, ↓bo, ↓io, ↓av0, ↓av1, ↓itL, ↓itT, ↓it0, ↓it1, ↓it2, ↓itB, ↓rtB, ↓rt_v, ↓g_ninI, ↓g_inI, ↓w_Lc, ↓w_LcM, ↓turn_nx, wipeL_cons, wipeL_nil, ↓sw0, ↓sw1, ↓sw2, ↓gix2, ↓app0, ↓app1, ↓app2, ↓appB, ↓isL0, ↓isL1, ↓isL2, ↓isLB, ↓isLv, ↓at_head, ↓v0, ↓v1, ↓v2, ↓v3, ↓v4, ↓v5, ↓v6, ↓v7, ↓v8, ↓v9, ↓v10, ↓v11, ↓v12, ↓v13, ↓v14, ↓v15, ↓v16, ↓v17, ↓t0, ↓t1, ↓t2, ↓t3, ↓t4, ↓t5, ↓t6, ↓t7, ↓t8, ↓setAll0, ↓setAll1, List.set_cons_zero, List.set_cons_succ, decide_eq_true_eq, Bool.not_eq_true', decide_eq_false_iff_not])
  refine ⟨rfl, rfl, w_someI [t.o, t.l, t.a, t.e, z, t.l - s.b.fl - s.b.ck, (t.l + t.a) / 2] hB1 (by simp) (by simp) fun tick o2 htick hB2 => ?_⟩
  have htk : -100 ≤ tick ∧ tick ≤ 40000 := by
    simp only [List.mem_cons, List.not_mem_nil, or_false] at htick
    rcases htick with rfl | rfl | rfl | rfl | rfl | rfl | rfl <;> omega
  try (simp only [↓w_c, ↓w_e2, ↓we1', ↓p_v, ↓pr0, ↓pr1, ↓pr2, ↓pr3, ↓prA, ↓prB, ↓poL, ↓poD, ↓wB', ↓wt_N, ↓wt_An, ↓wt_Or, ↓wt_Ye, ↓w_Bo, ↓w_An, ↓w_Or, ↓w_If, ↓ws_If, ↓wa_Nil, ↓wa_Cons, ↓wTup', ↓wLst', ↓wLstM', ↓w_Dct, ↓w_DctM, ↓w_B, ↓w_Call, ↓wMt', ↓pl_nil, ↓pl_cons, ↓wc_P, ↓wc_M, ↓wSl', ↓wo_No, ↓woS', ↓wRlv, ↓wRlm, ↓ws_Nil, ↓ws_Cons, ↓then_nx, ↓then_rt, ↓ws_Asg, ↓wg_Nm, ↓wg_Tp, ↓wgs_Nil, ↓wgs_Cons, ↓wgSb', ↓ws_Par, ↓aug0, ↓aug1, ↓aug2, ↓aug3, ↓aug4, ↓aug5, ↓aug6, ↓aug7, ↓aug8, ↓aug9, ↓aug10, ↓aug11, ↓aug12, ↓aug13, ↓aug14, ↓aug15, ↓aug16, ↓aug17, ↓wAugS', ↓ws_Ret, ↓ws_RetT, ↓ws_Drop, ↓ws_For, ↓wSq', ↓wRg', ↓rg1, ↓rg2, ↓rg3, ↓rl1, ↓rl2, ↓rl3, ↓wEn', ↓enV, ↓wZp', ↓zpVV, ↓zpVB, ↓g_add, ↓g_addL, ↓g_addT, ↓g_iadd, ↓g_sub, ↓g_mul, ↓g_mulL, ↓g_fdiv, ↓g_mod, ↓g_pow, ↓g_lt, ↓g_le, ↓g_gt, ↓g_ge, ↓g_eqI, ↓g_neI, ↓g_is, ↓g_isnt, ↓g_ixT, ↓g_ixL, ↓g_ixD, ↓gl_abs, ↓gl_max, ↓gl_min, ↓gl_int, ↓gl_intB, ↓gl_gcd, ↓gl_lenL, ↓gl_lenT, ↓gl_tupL, ↓gl_tupT, ↓gl_lstL, ↓gl_lstT, ↓gl_rep, ↓gl_sortD, ↓gl_sortL, ↓ngI, ↓slL, ↓slT, ↓slS, ↓bo, ↓io, ↓av0, ↓av1, ↓itL, ↓itT, ↓it0, ↓it1, ↓it2, ↓itB, ↓rtB, ↓rt_v, ↓g_ninI, ↓g_inI, ↓w_Lc, ↓w_LcM, ↓turn_nx, wipeL_cons, wipeL_nil, ↓sw0, ↓sw1, ↓sw2, ↓gix2, ↓app0, ↓app1, ↓app2, ↓appB, ↓isL0, ↓isL1, ↓isL2, ↓isLB, ↓isLv, ↓at_head, ↓v0, ↓v1, ↓v2, ↓v3, ↓v4, ↓v5, ↓v6, ↓v7, ↓v8, ↓v9, ↓v10, ↓v11, ↓v12, ↓v13, ↓v14, ↓v15, ↓v16, ↓v17, ↓t0, ↓t1, ↓t2, ↓t3, ↓t4, ↓t5, ↓t6, ↓t7, ↓t8, ↓setAll0, ↓setAll1, List.set_cons_zero, List.set_cons_succ, decide_eq_true_eq, Bool.not_eq_true', decide_eq_false_iff_not])
  refine ⟨rfl, rfl, rfl, rfl, rfl, rfl, rfl, rfl, rfl, w_someF [⟨0, 1⟩, ⟨1, 2⟩, ⟨-1, 3⟩, ⟨s.b.fl, 1⟩, ⟨-1, 1⟩, ⟨0, 1⟩] hB2 (by simp) (by simp) fun f o3 hf hB3 => ?_⟩
  have hfo : f.n.natAbs ≤ 10 ∧ 1 ≤ f.d ∧ f.d ≤ 10 := by
    simp only [List.mem_cons, List.not_mem_nil, or_false] at hf
    rcases hf with rfl | rfl | rfl | rfl | rfl | rfl
    · exact ⟨by decide, by decide, by decide⟩
    · exact ⟨by decide, by decide, by decide⟩
    · exact ⟨by decide, by decide, by decide⟩
    · exact ⟨by show s.b.fl.natAbs ≤ 10; omega, (by decide : (1 : Int) ≤ 1), (by decide : (1 : Int) ≤ 10)⟩
    · exact ⟨by decide, by decide, by decide⟩
    · exact ⟨by decide, by decide, by decide⟩
  have hf2 : f.Ok := ⟨by omega, by omega⟩
  have ht2 : (⟨tick, 1⟩ : Fr).Ok := ⟨by show tick.natAbs ≤ 2 ^ 40; omega, (by decide : (1 : Int) ≤ 1), (by decide : (1 : Int) ≤ 1000)⟩
  have hsum := sum_ok (x := ⟨tick, 1⟩) (y := f) (by show tick.natAbs ≤ 2 ^ 20; omega) ⟨(by decide : (1 : Int) ≤ 1), (by decide : (1 : Int) ≤ 10)⟩ (by omega) hfo.2
  try (simp only [↓w_c, ↓w_e2, ↓we1', ↓p_v, ↓pr0, ↓pr1, ↓pr2, ↓pr3, ↓prA, ↓prB, ↓poL, ↓poD, ↓wB', ↓wt_N, ↓wt_An, ↓wt_Or, ↓wt_Ye, ↓w_Bo, ↓w_An, ↓w_Or, ↓w_If, ↓ws_If, ↓wa_Nil, ↓wa_Cons, ↓wTup', ↓wLst', ↓wLstM', ↓w_Dct, ↓w_DctM, ↓w_B, ↓w_Call, ↓wMt', ↓pl_nil, ↓pl_cons, ↓wc_P, ↓wc_M, ↓wSl', ↓wo_No, ↓woS', ↓wRlv, ↓wRlm, ↓ws_Nil, ↓ws_Cons, ↓then_nx, ↓then_rt, ↓ws_Asg, ↓wg_Nm, ↓wg_Tp, ↓wgs_Nil, ↓wgs_Cons, ↓wgSb', ↓ws_Par, ↓aug0, ↓aug1, ↓aug2, ↓aug3, ↓aug4, ↓aug5, ↓aug6, ↓aug7, ↓aug8, ↓aug9, ↓aug10, ↓aug11, ↓aug12, ↓aug13, ↓aug14, ↓aug15, ↓aug16, ↓aug17, ↓wAugS', ↓ws_Ret, ↓ws_RetT, ↓ws_Drop, ↓ws_For, ↓wSq', ↓wRg', ↓rg1, ↓rg2, ↓rg3, ↓rl1, ↓rl2, ↓rl3, ↓wEn', ↓enV, ↓wZp', ↓zpVV, ↓zpVB, ↓g_add, ↓g_addL, ↓g_addT, ↓g_iadd, ↓g_sub, ↓g_mul, ↓g_mulL, ↓g_fdiv, ↓g_mod, ↓g_pow, ↓g_lt, ↓g_le, ↓g_gt, ↓g_ge, ↓g_eqI, ↓g_neI, ↓g_is, ↓g_isnt, ↓g_ixT, ↓g_ixL, ↓g_ixD, ↓gl_abs, ↓gl_max, ↓gl_min, ↓gl_int, ↓gl_intB, ↓gl_gcd, ↓gl_lenL, ↓gl_lenT, ↓gl_tupL, ↓gl_tupT, ↓gl_lstL, ↓gl_lstT, ↓gl_rep, ↓gl_sortD, ↓gl_sortL, ↓ngI, ↓slL, ↓slT, ↓slS, ↓bo, ↓io, ↓av0, ↓av1, ↓itL, ↓itT, ↓it0, ↓it1, ↓it2, ↓itB, ↓rtB, ↓rt_v, ↓g_ninI, ↓g_inI, ↓w_Lc, ↓w_LcM, ↓turn_nx, wipeL_cons, wipeL_nil, ↓sw0, ↓sw1, ↓sw2, ↓gix2, ↓app0, ↓app1, ↓app2, ↓appB, ↓isL0, ↓isL1, ↓isL2, ↓isLB, ↓isLv, ↓at_head, ↓v0, ↓v1, ↓v2, ↓v3, ↓v4, ↓v5, ↓v6, ↓v7, ↓v8, ↓v9, ↓v10, ↓v11, ↓v12, ↓v13, ↓v14, ↓v15, ↓v16, ↓v17, ↓t0, ↓t1, ↓t2, ↓t3, ↓t4, ↓t5, ↓t6, ↓t7, ↓t8, ↓setAll0, ↓setAll1, List.set_cons_zero, List.set_cons_succ, decide_eq_true_eq, Bool.not_eq_true', decide_eq_false_iff_not])
  refine ⟨rfl, w_ladd (x := ⟨tick, 1⟩) ht2 hf2 ?_⟩
  generalize Fr.sum ⟨tick, 1⟩ f = g at hsum
  try (simp only [↓w_c, ↓w_e2, ↓we1', ↓p_v, ↓pr0, ↓pr1, ↓pr2, ↓pr3, ↓prA, ↓prB, ↓poL, ↓poD, ↓wB', ↓wt_N, ↓wt_An, ↓wt_Or, ↓wt_Ye, ↓w_Bo, ↓w_An, ↓w_Or, ↓w_If, ↓ws_If, ↓wa_Nil, ↓wa_Cons, ↓wTup', ↓wLst', ↓wLstM', ↓w_Dct, ↓w_DctM, ↓w_B, ↓w_Call, ↓wMt', ↓pl_nil, ↓pl_cons, ↓wc_P, ↓wc_M, ↓wSl', ↓wo_No, ↓woS', ↓wRlv, ↓wRlm, ↓ws_Nil, ↓ws_Cons, ↓then_nx, ↓then_rt, ↓ws_Asg, ↓wg_Nm, ↓wg_Tp, ↓wgs_Nil, ↓wgs_Cons, ↓wgSb', ↓ws_Par, ↓aug0, ↓aug1, ↓aug2, ↓aug3, ↓aug4, ↓aug5, ↓aug6, ↓aug7, ↓aug8, ↓aug9, ↓aug10, ↓aug11, ↓aug12, ↓aug13, ↓aug14, ↓aug15, ↓aug16, ↓aug17, ↓wAugS', ↓ws_Ret, ↓ws_RetT, ↓ws_Drop, ↓ws_For, ↓wSq', ↓wRg', ↓rg1, ↓rg2, ↓rg3, ↓rl1, ↓rl2, ↓rl3, ↓wEn', ↓enV, ↓wZp', ↓zpVV, ↓zpVB, ↓g_add, ↓g_addL, ↓g_addT, ↓g_iadd, ↓g_sub, ↓g_mul, ↓g_mulL, ↓g_fdiv, ↓g_mod, ↓g_pow, ↓g_lt, ↓g_le, ↓g_gt, ↓g_ge, ↓g_eqI, ↓g_neI, ↓g_is, ↓g_isnt, ↓g_ixT, ↓g_ixL, ↓g_ixD, ↓gl_abs, ↓gl_max, ↓gl_min, ↓gl_int, ↓gl_intB, ↓gl_gcd, ↓gl_lenL, ↓gl_lenT, ↓gl_tupL, ↓gl_tupT, ↓gl_lstL, ↓gl_lstT, ↓gl_rep, ↓gl_sortD, ↓gl_sortL, ↓ngI, ↓slL, ↓slT, ↓slS, ↓bo, ↓io, ↓av0, ↓av1, ↓itL, ↓itT, ↓it0, ↓it1, ↓it2, ↓itB, ↓rtB, ↓rt_v, ↓g_ninI, ↓g_inI, ↓w_Lc, ↓w_LcM, ↓turn_nx, wipeL_cons, wipeL_nil, ↓sw0, ↓sw1, ↓sw2, ↓gix2, ↓app0, ↓app1, ↓app2, ↓appB, ↓isL0, ↓isL1, ↓isL2, ↓isLB, ↓isLv, ↓at_head, ↓v0, ↓v1, ↓v2, ↓v3, ↓v4, ↓v5, ↓v6, ↓v7, ↓v8, ↓v9, ↓v10, ↓v11, ↓v12, ↓v13, ↓v14, ↓v15, ↓v16, ↓v17, ↓t0, ↓t1, ↓t2, ↓t3, ↓t4, ↓t5, ↓t6, ↓t7, ↓t8, ↓setAll0, ↓setAll1, List.set_cons_zero, List.set_cons_succ, decide_eq_true_eq, Bool.not_eq_true', decide_eq_false_iff_not])
  refine at_last hne fun x hx => ?_
  obtain ⟨tz, rfl, ht3⟩ := hm x hx
  unfold Tm.v
  try (simp only [↓w_c, ↓w_e2, ↓we1', ↓p_v, ↓pr0, ↓pr1, ↓pr2, ↓pr3, ↓prA, ↓prB, ↓poL, ↓poD, ↓wB', ↓wt_N, ↓wt_An, ↓wt_Or, ↓wt_Ye, ↓w_Bo, ↓w_An, ↓w_Or, ↓w_If, ↓ws_If, ↓wa_Nil, ↓wa_Cons, ↓wTup', ↓wLst', ↓wLstM', ↓w_Dct, ↓w_DctM, ↓w_B, ↓w_Call, ↓wMt', ↓pl_nil, ↓pl_cons, ↓wc_P, ↓wc_M, ↓wSl', ↓wo_No, ↓woS', ↓wRlv, ↓wRlm, ↓ws_Nil, ↓ws_Cons, ↓then_nx, ↓then_rt, ↓ws_Asg, ↓wg_Nm, ↓wg_Tp, ↓wgs_Nil, ↓wgs_Cons, ↓wgSb', ↓ws_Par, ↓aug0, ↓aug1, ↓aug2, ↓aug3, ↓aug4, ↓aug5, ↓aug6, ↓aug7, ↓aug8, ↓aug9, ↓aug10, ↓aug11, ↓aug12, ↓aug13, ↓aug14, ↓aug15, ↓aug16, ↓aug17, ↓wAugS', ↓ws_Ret, ↓ws_RetT, ↓ws_Drop, ↓ws_For, ↓wSq', ↓wRg', ↓rg1, ↓rg2, ↓rg3, ↓rl1, ↓rl2, ↓rl3, ↓wEn', ↓enV, ↓wZp', ↓zpVV, ↓zpVB, ↓g_add, ↓g_addL, ↓g_addT, ↓g_iadd, ↓g_sub, ↓g_mul, ↓g_mulL, ↓g_fdiv, ↓g_mod, ↓g_pow, ↓g_lt, ↓g_le, ↓g_gt, ↓g_ge, ↓g_eqI, ↓g_neI, ↓g_is, ↓g_isnt, ↓g_ixT, ↓g_ixL, ↓g_ixD, ↓gl_abs, ↓gl_max, ↓gl_min, ↓gl_int, ↓gl_intB, ↓gl_gcd, ↓gl_lenL, ↓gl_lenT, ↓gl_tupL, ↓gl_tupT, ↓gl_lstL, ↓gl_lstT, ↓gl_rep, ↓gl_sortD, ↓gl_sortL, ↓ngI, ↓slL, ↓slT, ↓slS, ↓bo, ↓io, ↓av0, ↓av1, ↓itL, ↓itT, ↓it0, ↓it1, ↓it2, ↓itB, ↓rtB, ↓rt_v, ↓g_ninI, ↓g_inI, ↓w_Lc, ↓w_LcM, ↓turn_nx, wipeL_cons, wipeL_nil, ↓sw0, ↓sw1, ↓sw2, ↓gix2, ↓app0, ↓app1, ↓app2, ↓appB, ↓isL0, ↓isL1, ↓isL2, ↓isLB, ↓isLv, ↓at_head, ↓v0, ↓v1, ↓v2, ↓v3, ↓v4, ↓v5, ↓v6, ↓v7, ↓v8, ↓v9, ↓v10, ↓v11, ↓v12, ↓v13, ↓v14, ↓v15, ↓v16, ↓v17, ↓t0, ↓t1, ↓t2, ↓t3, ↓t4, ↓t5, ↓t6, ↓t7, ↓t8, ↓setAll0, ↓setAll1, List.set_cons_zero, List.set_cons_succ, decide_eq_true_eq, Bool.not_eq_true', decide_eq_false_iff_not])
  refine ⟨rfl, ?_⟩
  have hbl : ∀ {Q1 : RV → Sto → Prop}, (∀ b : Bool, Q1 (.v (.bl b)) (o3 :: R)) → WC c__law_is_below [.v (.tup [.int tz.e, .int 1]), .v g.v] (o3 :: R) Q1 := fun q => w_below (x := ⟨tz.e, 1⟩) ⟨by show tz.e.natAbs ≤ 2 ^ 40; omega, (by decide : (1 : Int) ≤ 1), (by decide : (1 : Int) ≤ 1000)⟩ hsum (q _)
  have hgv : ∀ {Q1 : PV → Prop}, Q1 (.int g.n) → G ixP g.v (.int 0) Q1 := fun q => by
    unfold Fr.v
    simp only [↓w_c, ↓w_e2, ↓we1', ↓p_v, ↓pr0, ↓pr1, ↓pr2, ↓pr3, ↓prA, ↓prB, ↓poL, ↓poD, ↓wB', ↓wt_N, ↓wt_An, ↓wt_Or, ↓wt_Ye, ↓w_Bo, ↓w_An, ↓w_Or, ↓w_If, ↓ws_If, ↓wa_Nil, ↓wa_Cons, ↓wTup', ↓wLst', ↓wLstM', ↓w_Dct, ↓w_DctM, ↓w_B, ↓w_Call, ↓wMt', ↓pl_nil, ↓pl_cons, ↓wc_P, ↓wc_M, ↓wSl', ↓wo_No, ↓woS', ↓wRlv, ↓wRlm, ↓ws_Nil, ↓ws_Cons, ↓then_nx, ↓then_rt, ↓ws_Asg, ↓wg_Nm, ↓wg_Tp, ↓wgs_Nil, ↓wgs_Cons, ↓wgSb', ↓ws_Par, ↓aug0, ↓aug1, ↓aug2, ↓aug3, ↓aug4, ↓aug5, ↓aug6, ↓aug7, ↓aug8, ↓aug9, ↓aug10, ↓aug11, ↓aug12, ↓aug13, ↓aug14, ↓aug15, ↓aug16, ↓aug17, ↓wAugS', ↓ws_Ret, ↓ws_RetT, ↓ws_Drop, ↓ws_For, ↓wSq', ↓wRg', ↓rg1, ↓rg2, ↓rg3, ↓rl1, ↓rl2, ↓rl3, ↓wEn', ↓enV, ↓wZp', ↓zpVV, ↓zpVB, ↓g_add, ↓g_addL, ↓g_addT, ↓g_iadd, ↓g_sub, ↓g_mul, ↓g_mulL, ↓g_fdiv, ↓g_mod, ↓g_pow, ↓g_lt, ↓g_le, ↓g_gt, ↓g_ge, ↓g_eqI, ↓g_neI, ↓g_is, ↓g_isnt, ↓g_ixT, ↓g_ixL, ↓g_ixD, ↓gl_abs, ↓gl_max, ↓gl_min, ↓gl_int, ↓gl_intB, ↓gl_gcd, ↓gl_lenL, ↓gl_lenT, ↓gl_tupL, ↓gl_tupT, ↓gl_lstL, ↓gl_lstT, ↓gl_rep, ↓gl_sortD, ↓gl_sortL, ↓ngI, ↓slL, ↓slT, ↓slS, ↓bo, ↓io, ↓av0, ↓av1, ↓itL, ↓itT, ↓it0, ↓it1, ↓it2, ↓itB, ↓rtB, ↓rt_v, ↓g_ninI, ↓g_inI, ↓w_Lc, ↓w_LcM, ↓turn_nx, wipeL_cons, wipeL_nil, ↓sw0, ↓sw1, ↓sw2, ↓gix2, ↓app0, ↓app1, ↓app2, ↓appB, ↓isL0, ↓isL1, ↓isL2, ↓isLB, ↓isLv, ↓at_head, ↓v0, ↓v1, ↓v2, ↓v3, ↓v4, ↓v5, ↓v6, ↓v7, ↓v8, ↓v9, ↓v10, ↓v11, ↓v12, ↓v13, ↓v14, ↓v15, ↓v16, ↓v17, ↓t0, ↓t1, ↓t2, ↓t3, ↓t4, ↓t5, ↓t6, ↓t7, ↓t8, ↓setAll0, ↓setAll1, List.set_cons_zero, List.set_cons_succ, decide_eq_true_eq, Bool.not_eq_true', decide_eq_false_iff_not]
    exact q
  refine hgv ?_
  try (simp only [↓w_c, ↓w_e2, ↓we1', ↓p_v, ↓pr0, ↓pr1, ↓pr2, ↓pr3, ↓prA, ↓prB, ↓poL, ↓poD, ↓wB', ↓wt_N, ↓wt_An, ↓wt_Or, ↓wt_Ye, ↓w_Bo, ↓w_An, ↓w_Or, ↓w_If, ↓ws_If, ↓wa_Nil, ↓wa_Cons, ↓wTup', ↓wLst', ↓wLstM', ↓w_Dct, ↓w_DctM, ↓w_B, ↓w_Call, ↓wMt', ↓pl_nil, ↓pl_cons, ↓wc_P, ↓wc_M, ↓wSl', ↓wo_No, ↓woS', ↓wRlv, ↓wRlm, ↓ws_Nil, ↓ws_Cons, ↓then_nx, ↓then_rt, ↓ws_Asg, ↓wg_Nm, ↓wg_Tp, ↓wgs_Nil, ↓wgs_Cons, ↓wgSb', ↓ws_Par, ↓aug0, ↓aug1, ↓aug2, ↓aug3, ↓aug4, ↓aug5, ↓aug6, ↓aug7, ↓aug8, ↓aug9, ↓aug10, ↓aug11, ↓aug12, ↓aug13, ↓aug14, ↓aug15, ↓aug16, ↓aug17, ↓wAugS', ↓ws_Ret, ↓ws_RetT, ↓ws_Drop, ↓ws_For, ↓wSq', ↓wRg', ↓rg1, ↓rg2, ↓rg3, ↓rl1, ↓rl2, ↓rl3, ↓wEn', ↓enV, ↓wZp', ↓zpVV, ↓zpVB, ↓g_add, ↓g_addL, ↓g_addT, ↓g_iadd, ↓g_sub, ↓g_mul, ↓g_mulL, ↓g_fdiv, ↓g_mod, ↓g_pow, ↓g_lt, ↓g_le, ↓g_gt, ↓g_ge, ↓g_eqI, ↓g_neI, ↓g_is, ↓g_isnt, ↓g_ixT, ↓g_ixL, ↓g_ixD, ↓gl_abs, ↓gl_max, ↓gl_min, ↓gl_int, ↓gl_intB, ↓gl_gcd, ↓gl_lenL, ↓gl_lenT, ↓gl_tupL, ↓gl_tupT, ↓gl_lstL, ↓gl_lstT, ↓gl_rep, ↓gl_sortD, ↓gl_sortL, ↓ngI, ↓slL, ↓slT, ↓slS, ↓bo, ↓io, ↓av0, ↓av1, ↓itL, ↓itT, ↓it0, ↓it1, ↓it2, ↓itB, ↓rtB, ↓rt_v, ↓g_ninI, ↓g_inI, ↓w_Lc, ↓w_LcM, ↓turn_nx, wipeL_cons, wipeL_nil, ↓sw0, ↓sw1, ↓sw2, ↓gix2, ↓app0, ↓app1, ↓app2, ↓appB, ↓isL0, ↓isL1, ↓isL2, ↓isLB, ↓isLv, ↓at_head, ↓v0, ↓v1, ↓v2, ↓v3, ↓v4, ↓v5, ↓v6, ↓v7, ↓v8, ↓v9, ↓v10, ↓v11, ↓v12, ↓v13, ↓v14, ↓v15, ↓v16, ↓v17, ↓t0, ↓t1, ↓t2, ↓t3, ↓t4, ↓t5, ↓t6, ↓t7, ↓t8, ↓setAll0, ↓setAll1, List.set_cons_zero, List.set_cons_succ, decide_eq_true_eq, Bool.not_eq_true', decide_eq_false_iff_not])
  split
  · exact ⟨rfl, end1 (k ⟨0, 1⟩ o3 ⟨by decide, by decide⟩ hB3)⟩
  · refine ⟨rfl, hbl fun b => ?_⟩
    try (simp only [↓w_c, ↓w_e2, ↓we1', ↓p_v, ↓pr0, ↓pr1, ↓pr2, ↓pr3, ↓prA, ↓prB, ↓poL, ↓poD, ↓wB', ↓wt_N, ↓wt_An, ↓wt_Or, ↓wt_Ye, ↓w_Bo, ↓w_An, ↓w_Or, ↓w_If, ↓ws_If, ↓wa_Nil, ↓wa_Cons, ↓wTup', ↓wLst', ↓wLstM', ↓w_Dct, ↓w_DctM, ↓w_B, ↓w_Call, ↓wMt', ↓pl_nil, ↓pl_cons, ↓wc_P, ↓wc_M, ↓wSl', ↓wo_No, ↓woS', ↓wRlv, ↓wRlm, ↓ws_Nil, ↓ws_Cons, ↓then_nx, ↓then_rt, ↓ws_Asg, ↓wg_Nm, ↓wg_Tp, ↓wgs_Nil, ↓wgs_Cons, ↓wgSb', ↓ws_Par, ↓aug0, ↓aug1, ↓aug2, ↓aug3, ↓aug4, ↓aug5, ↓aug6, ↓aug7, ↓aug8, ↓aug9, ↓aug10, ↓aug11, ↓aug12, ↓aug13, ↓aug14, ↓aug15, ↓aug16, ↓aug17, ↓wAugS', ↓ws_Ret, ↓ws_RetT, ↓ws_Drop, ↓ws_For, ↓wSq', ↓wRg', ↓rg1, ↓rg2, ↓rg3, ↓rl1, ↓rl2, ↓rl3, ↓wEn', ↓enV, ↓wZp', ↓zpVV, ↓zpVB, ↓g_add, ↓g_addL, ↓g_addT, ↓g_iadd, ↓g_sub, ↓g_mul, ↓g_mulL, ↓g_fdiv, ↓g_mod, ↓g_pow, ↓g_lt, ↓g_le, ↓g_gt, ↓g_ge, ↓g_eqI, ↓g_neI, ↓g_is, ↓g_isnt, ↓g_ixT, ↓g_ixL, ↓g_ixD, ↓gl_abs, ↓gl_max, ↓gl_min, ↓gl_int, ↓gl_intB, ↓gl_gcd, ↓gl_lenL, ↓gl_lenT, ↓gl_tupL, ↓gl_tupT, ↓gl_lstL, ↓gl_lstT, ↓gl_rep, ↓gl_sortD, ↓gl_sortL, ↓ngI, ↓slL, ↓slT, ↓slS, ↓bo, ↓io, ↓av0, ↓av1, ↓itL, ↓itT, ↓it0, ↓it1, ↓it2, ↓itB, ↓rtB, ↓rt_v, ↓g_ninI, ↓g_inI, ↓w_Lc, ↓w_LcM, ↓turn_nx, wipeL_cons, wipeL_nil, ↓sw0, ↓sw1, ↓sw2, ↓gix2, ↓app0, ↓app1, ↓app2, ↓appB, ↓isL0, ↓isL1, ↓isL2, ↓isLB, ↓isLv, ↓at_head, ↓v0, ↓v1, ↓v2, ↓v3, ↓v4, ↓v5, ↓v6, ↓v7, ↓v8, ↓v9, ↓v10, ↓v11, ↓v12, ↓v13, ↓v14, ↓v15, ↓v16, ↓v17, ↓t0, ↓t1, ↓t2, ↓t3, ↓t4, ↓t5, ↓t6, ↓t7, ↓t8, ↓setAll0, ↓setAll1, List.set_cons_zero, List.set_cons_succ, decide_eq_true_eq, Bool.not_eq_true', decide_eq_false_iff_not])
    split
    · exact end1 (k ⟨tz.e, 1⟩ o3 ⟨by show tz.e.natAbs ≤ 2 ^ 40; omega, (by decide : (1 : Int) ≤ 1), (by decide : (1 : Int) ≤ 1000)⟩ hB3)
    · exact end1 (k g o3 hsum hB3)
end K61

namespace K61
open PySem PySem.Spec PyProof.Rows L2 Dn
def frs (l : List Fr) : PV := .tup (l.map Fr.v)
def wds (l : List Wd) : PV := .tup (l.map Wd.v)
structure Night where
  (falls : List (Int × Fr)) (errs : List (Int × List Fr)) (winds : List (Int × List Wd)) (lost : List (Int × Int))
def Night.v (n : Night) : PV := .tup [dI Fr.v n.falls, dI frs n.errs, dI wds n.winds, dI PV.int n.lost]
structure Night.Ok (n : Night) (m k : Nat) : Prop where
  falls : n.falls.length ≤ k ∧ ∀ p ∈ n.falls, (0 ≤ p.1 ∧ p.1 < k) ∧ p.2.Ok
  errs : n.errs.length ≤ k ∧ (∀ p ∈ n.errs, (0 ≤ p.1 ∧ p.1 < k) ∧ p.2.length = m ∧ ∀ f ∈ p.2, f.Ok ∧ f.n.natAbs ≤ 2 ^ 30) ∧ ∀ i : Nat, i < k → ∃ p ∈ n.errs, p.1 = i
  winds : n.winds.length ≤ k ∧ ∀ p ∈ n.winds, (0 ≤ p.1 ∧ p.1 < k) ∧ p.2.length = m + 1 ∧ ∀ f ∈ p.2, f.Ok
  lost : n.lost.length ≤ k ∧ ∀ p ∈ n.lost, (0 ≤ p.1 ∧ p.1 < k) ∧ 0 ≤ p.2 ∧ p.2 < m
section
variable {s : Show} {b : Bnd} {Q : PV → Prop}
theorem sx0 : G ixP s.v (.int 0) Q ↔ Q s.b.v := (g_ixT (xs := [s.b.v, .tup (s.pads.map padV), .tup [.int s.c0, .int s.c1, .int s.c2], .tup (s.sc.map Scene.v)])).trans t0
theorem sx1 : G ixP s.v (.int 1) Q ↔ Q (.tup (s.pads.map padV)) := (g_ixT (xs := [s.b.v, .tup (s.pads.map padV), .tup [.int s.c0, .int s.c1, .int s.c2], .tup (s.sc.map Scene.v)])).trans t1
theorem sx3 : G ixP s.v (.int 3) Q ↔ Q (.tup (s.sc.map Scene.v)) := (g_ixT (xs := [s.b.v, .tup (s.pads.map padV), .tup [.int s.c0, .int s.c1, .int s.c2], .tup (s.sc.map Scene.v)])).trans t3
theorem bx2 : G ixP b.v (.int 2) Q ↔ Q (.int b.wd) := (g_ixT (xs := [.int b.sp, .int b.nr, .int b.wd, .int b.ck, .int b.fl, .int b.wy, .int b.g, .int b.h, .int b.d])).trans t2
theorem bx3 : G ixP b.v (.int 3) Q ↔ Q (.int b.ck) := (g_ixT (xs := [.int b.sp, .int b.nr, .int b.wd, .int b.ck, .int b.fl, .int b.wy, .int b.g, .int b.h, .int b.d])).trans t3
end
theorem w_night {o : SO} {s : Show} {Q : RV → Sto → Prop} (hB : BagO o) (hs : s.Ok) (k : ∀ (n : Night) o', n.Ok s.sc.length s.pads.length → BagO o' → Q (.v n.v) [o']) : WC c__law_night [.ref 0, .v s.v, .v (.int 1)] [o] Q := by
  refine wc_many rfl ?_
  unfold m__law_night d__law_night_1 d__law_night_2
  show W _ [some (.ref 0), some (.v s.v), some (.v (.int 1)), none, none, none, none, none, none, none, none] _ _
  try (simp only [↓w_c, ↓w_e2, ↓we1', ↓p_v, ↓pr0, ↓pr1, ↓pr2, ↓pr3, ↓prA, ↓prB, ↓poL, ↓poD, ↓wB', ↓wt_N, ↓wt_An, ↓wt_Or, ↓wt_Ye, ↓w_Bo, ↓w_An, ↓w_Or, ↓w_If, ↓ws_If, ↓wa_Nil, ↓wa_Cons, ↓wTup', ↓wLst', ↓wLstM', ↓w_Dct, ↓w_DctM, ↓w_B, ↓w_Call, ↓wMt', ↓pl_nil, ↓pl_cons, ↓wc_P, ↓wc_M, ↓wSl', ↓wo_No, ↓woS', ↓wRlv, ↓wRlm, ↓ws_Nil, ↓ws_Cons, ↓then_nx, ↓then_rt, ↓ws_Asg, ↓wg_Nm, ↓wg_Tp, ↓wgs_Nil, ↓wgs_Cons, ↓wgSb', ↓ws_Par, ↓aug0, ↓aug1, ↓aug2, ↓aug3, ↓aug4, ↓aug5, ↓aug6, ↓aug7, ↓aug8, ↓aug9, ↓aug10, ↓aug11, ↓aug12, ↓aug13, ↓aug14, ↓aug15, ↓aug16, ↓aug17, ↓wAugS', ↓ws_Ret, ↓ws_RetT, ↓ws_Drop, ↓ws_For, ↓wSq', ↓wRg', ↓rg1, ↓rg2, ↓rg3, ↓rl1, ↓rl2, ↓rl3, ↓wEn', ↓enV, ↓wZp', ↓zpVV, ↓zpVB, ↓g_add, ↓g_addL, ↓g_addT, ↓g_iadd, ↓g_sub, ↓g_mul, ↓g_mulL, ↓g_fdiv, ↓g_mod, ↓g_pow, ↓g_lt, ↓g_le, ↓g_gt, ↓g_ge, ↓g_eqI, ↓g_neI, ↓g_is, ↓g_isnt, ↓g_ixT, ↓g_ixL, ↓g_ixD, ↓gl_abs, ↓gl_max, ↓gl_min, ↓gl_int, ↓gl_intB, ↓gl_gcd, ↓gl_lenL, ↓gl_lenT, ↓gl_tupL, ↓gl_tupT, ↓gl_lstL, ↓gl_lstT, ↓gl_rep, ↓gl_sortD, ↓gl_sortL, ↓ngI, ↓slL, ↓slT, ↓slS, ↓bo, ↓io, ↓av0, ↓av1, ↓itL, ↓itT, ↓it0, ↓it1, ↓it2, ↓itB, ↓rtB, ↓rt_v, ↓g_ninI, ↓g_inI, ↓w_Lc, ↓w_LcM, ↓turn_nx, wipeL_cons, wipeL_nil, ↓sw0, ↓sw1, ↓sw2, ↓gix2, ↓app0, ↓app1, ↓app2, ↓appB, ↓isL0, ↓isL1, ↓isL2, ↓isLB, ↓isLv, ↓at_head, ↓v0, ↓v1, ↓v2, ↓v3, ↓v4, ↓v5, ↓v6, ↓v7, ↓v8, ↓v9, ↓v10, ↓v11, ↓v12, ↓v13, ↓v14, ↓v15, ↓v16, ↓v17, ↓t0, ↓t1, ↓t2, ↓t3, ↓t4, ↓t5, ↓t6, ↓t7, ↓t8, ↓setAll0, ↓setAll1, List.set_cons_zero, List.set_cons_succ, decide_eq_true_eq, Bool.not_eq_true', decide_eq_false_iff_not, ↓sx0, ↓sx1, ↓sx3, ↓bx2, ↓bx3])
  have hpl := hs.pads.1
  have hsl := hs.sc.1
  refine ⟨⟨rfl, rfl⟩, big_of (by omega) (by rw [List.length_map]; omega), ?_⟩
  refine wf_inv (fun i r S' => ∃ (n : Night) (o' : SO) (a b c d : Option RV), n.Ok s.sc.length i ∧ BagO o' ∧ S' = [o', oI Fr.v n.falls, oI frs n.errs, oI wds n.winds, oI PV.int n.lost] ∧
    r = [some (.ref 0), some (.v s.v), some (.v (.int 1)), some (.ref 1), some (.ref 2), some (.ref 3), some (.ref 4), a, b, c, d]) ⟨⟨[], [], [], []⟩, o, none, none, none, none, ⟨⟨Nat.le_refl _, by simp⟩, ⟨Nat.le_refl _, by simp, fun i hi => absurd hi (Nat.not_lt_zero _)⟩, ⟨Nat.le_refl _, by simp⟩, ⟨Nat.le_refl _, by simp⟩⟩, hB, rfl, rfl⟩ ?_ ?_
  · rintro i x r S' hx ⟨n, o1, a, b, c, d, hn, hB1, rfl, rfl⟩
    obtain ⟨hlt, rfl⟩ := rngV_get hx
    refine ⟨ok_nil _, ?_⟩
    have hi3 : i < 3 := by
      rw [List.length_map] at hlt
      omega
    unfold b__law_night_1 b__law_night_1_1 b__law_night_1_2
    try (simp only [↓w_c, ↓w_e2, ↓we1', ↓p_v, ↓pr0, ↓pr1, ↓pr2, ↓pr3, ↓prA, ↓prB, ↓poL, ↓poD, ↓wB', ↓wt_N, ↓wt_An, ↓wt_Or, ↓wt_Ye, ↓w_Bo, ↓w_An, ↓w_Or, ↓w_If, ↓ws_If, ↓wa_Nil, ↓wa_Cons, ↓wTup', ↓wLst', ↓wLstM', ↓w_Dct, ↓w_DctM, ↓w_B, ↓w_Call, ↓wMt', ↓pl_nil, ↓pl_cons, ↓wc_P, ↓wc_M, ↓wSl', ↓wo_No, ↓woS', ↓wRlv, ↓wRlm, ↓ws_Nil, ↓ws_Cons, ↓then_nx, ↓then_rt, ↓ws_Asg, ↓wg_Nm, ↓wg_Tp, ↓wgs_Nil, ↓wgs_Cons, ↓wgSb', ↓ws_Par, ↓aug0, ↓aug1, ↓aug2, ↓aug3, ↓aug4, ↓aug5, ↓aug6, ↓aug7, ↓aug8, ↓aug9, ↓aug10, ↓aug11, ↓aug12, ↓aug13, ↓aug14, ↓aug15, ↓aug16, ↓aug17, ↓wAugS', ↓ws_Ret, ↓ws_RetT, ↓ws_Drop, ↓ws_For, ↓wSq', ↓wRg', ↓rg1, ↓rg2, ↓rg3, ↓rl1, ↓rl2, ↓rl3, ↓wEn', ↓enV, ↓wZp', ↓zpVV, ↓zpVB, ↓g_add, ↓g_addL, ↓g_addT, ↓g_iadd, ↓g_sub, ↓g_mul, ↓g_mulL, ↓g_fdiv, ↓g_mod, ↓g_pow, ↓g_lt, ↓g_le, ↓g_gt, ↓g_ge, ↓g_eqI, ↓g_neI, ↓g_is, ↓g_isnt, ↓g_ixT, ↓g_ixL, ↓g_ixD, ↓gl_abs, ↓gl_max, ↓gl_min, ↓gl_int, ↓gl_intB, ↓gl_gcd, ↓gl_lenL, ↓gl_lenT, ↓gl_tupL, ↓gl_tupT, ↓gl_lstL, ↓gl_lstT, ↓gl_rep, ↓gl_sortD, ↓gl_sortL, ↓ngI, ↓slL, ↓slT, ↓slS, ↓bo, ↓io, ↓av0, ↓av1, ↓itL, ↓itT, ↓it0, ↓it1, ↓it2, ↓itB, ↓rtB, ↓rt_v, ↓g_ninI, ↓g_inI, ↓w_Lc, ↓w_LcM, ↓turn_nx, wipeL_cons, wipeL_nil, ↓sw0, ↓sw1, ↓sw2, ↓gix2, ↓app0, ↓app1, ↓app2, ↓appB, ↓isL0, ↓isL1, ↓isL2, ↓isLB, ↓isLv, ↓at_head, ↓v0, ↓v1, ↓v2, ↓v3, ↓v4, ↓v5, ↓v6, ↓v7, ↓v8, ↓v9, ↓v10, ↓v11, ↓v12, ↓v13, ↓v14, ↓v15, ↓v16, ↓v17, ↓t0, ↓t1, ↓t2, ↓t3, ↓t4, ↓t5, ↓t6, ↓t7, ↓t8, ↓setAll0, ↓setAll1, List.set_cons_zero, List.set_cons_succ, decide_eq_true_eq, Bool.not_eq_true', decide_eq_false_iff_not, ↓sx0, ↓sx1, ↓sx3, ↓bx2, ↓bx3])
    have hkey : ∀ p1 : Int, p1 < i → p1 ≠ 0 + (i : Int) := by
      intro p1 h
      omega
    refine ⟨small_of.mpr (by rw [List.length_map]; omega), ?_⟩
    refine wl_inv (fun j acc S' => ∃ (fs : List Fr) (o' : SO), acc = fs.map Fr.v ∧ fs.length = j ∧ (∀ f ∈ fs, f.Ok ∧ f.n.natAbs ≤ 2 ^ 30) ∧ BagO o' ∧ S' = [o', oI Fr.v n.falls, oI frs n.errs, oI wds n.winds, oI PV.int n.lost]) ⟨[], o1, rfl, rfl, by simp, hB1, rfl⟩ ?_ ?_
    · rintro j x acc S' hx ⟨fs, o', rfl, hj, hfo, hB', rfl⟩
      refine ⟨ok_nil _, ?_⟩
      try (simp only [↓w_c, ↓w_e2, ↓we1', ↓p_v, ↓pr0, ↓pr1, ↓pr2, ↓pr3, ↓prA, ↓prB, ↓poL, ↓poD, ↓wB', ↓wt_N, ↓wt_An, ↓wt_Or, ↓wt_Ye, ↓w_Bo, ↓w_An, ↓w_Or, ↓w_If, ↓ws_If, ↓wa_Nil, ↓wa_Cons, ↓wTup', ↓wLst', ↓wLstM', ↓w_Dct, ↓w_DctM, ↓w_B, ↓w_Call, ↓wMt', ↓pl_nil, ↓pl_cons, ↓wc_P, ↓wc_M, ↓wSl', ↓wo_No, ↓woS', ↓wRlv, ↓wRlm, ↓ws_Nil, ↓ws_Cons, ↓then_nx, ↓then_rt, ↓ws_Asg, ↓wg_Nm, ↓wg_Tp, ↓wgs_Nil, ↓wgs_Cons, ↓wgSb', ↓ws_Par, ↓aug0, ↓aug1, ↓aug2, ↓aug3, ↓aug4, ↓aug5, ↓aug6, ↓aug7, ↓aug8, ↓aug9, ↓aug10, ↓aug11, ↓aug12, ↓aug13, ↓aug14, ↓aug15, ↓aug16, ↓aug17, ↓wAugS', ↓ws_Ret, ↓ws_RetT, ↓ws_Drop, ↓ws_For, ↓wSq', ↓wRg', ↓rg1, ↓rg2, ↓rg3, ↓rl1, ↓rl2, ↓rl3, ↓wEn', ↓enV, ↓wZp', ↓zpVV, ↓zpVB, ↓g_add, ↓g_addL, ↓g_addT, ↓g_iadd, ↓g_sub, ↓g_mul, ↓g_mulL, ↓g_fdiv, ↓g_mod, ↓g_pow, ↓g_lt, ↓g_le, ↓g_gt, ↓g_ge, ↓g_eqI, ↓g_neI, ↓g_is, ↓g_isnt, ↓g_ixT, ↓g_ixL, ↓g_ixD, ↓gl_abs, ↓gl_max, ↓gl_min, ↓gl_int, ↓gl_intB, ↓gl_gcd, ↓gl_lenL, ↓gl_lenT, ↓gl_tupL, ↓gl_tupT, ↓gl_lstL, ↓gl_lstT, ↓gl_rep, ↓gl_sortD, ↓gl_sortL, ↓ngI, ↓slL, ↓slT, ↓slS, ↓bo, ↓io, ↓av0, ↓av1, ↓itL, ↓itT, ↓it0, ↓it1, ↓it2, ↓itB, ↓rtB, ↓rt_v, ↓g_ninI, ↓g_inI, ↓w_Lc, ↓w_LcM, ↓turn_nx, wipeL_cons, wipeL_nil, ↓sw0, ↓sw1, ↓sw2, ↓gix2, ↓app0, ↓app1, ↓app2, ↓appB, ↓isL0, ↓isL1, ↓isL2, ↓isLB, ↓isLv, ↓at_head, ↓v0, ↓v1, ↓v2, ↓v3, ↓v4, ↓v5, ↓v6, ↓v7, ↓v8, ↓v9, ↓v10, ↓v11, ↓v12, ↓v13, ↓v14, ↓v15, ↓v16, ↓v17, ↓t0, ↓t1, ↓t2, ↓t3, ↓t4, ↓t5, ↓t6, ↓t7, ↓t8, ↓setAll0, ↓setAll1, List.set_cons_zero, List.set_cons_succ, decide_eq_true_eq, Bool.not_eq_true', decide_eq_false_iff_not, ↓sx0, ↓sx1, ↓sx3, ↓bx2, ↓bx3])
      refine ⟨rfl, w_part hB' hs.b.ck fun f o2 hf hf3 hB2 => ?_⟩
      try (simp only [↓w_c, ↓w_e2, ↓we1', ↓p_v, ↓pr0, ↓pr1, ↓pr2, ↓pr3, ↓prA, ↓prB, ↓poL, ↓poD, ↓wB', ↓wt_N, ↓wt_An, ↓wt_Or, ↓wt_Ye, ↓w_Bo, ↓w_An, ↓w_Or, ↓w_If, ↓ws_If, ↓wa_Nil, ↓wa_Cons, ↓wTup', ↓wLst', ↓wLstM', ↓w_Dct, ↓w_DctM, ↓w_B, ↓w_Call, ↓wMt', ↓pl_nil, ↓pl_cons, ↓wc_P, ↓wc_M, ↓wSl', ↓wo_No, ↓woS', ↓wRlv, ↓wRlm, ↓ws_Nil, ↓ws_Cons, ↓then_nx, ↓then_rt, ↓ws_Asg, ↓wg_Nm, ↓wg_Tp, ↓wgs_Nil, ↓wgs_Cons, ↓wgSb', ↓ws_Par, ↓aug0, ↓aug1, ↓aug2, ↓aug3, ↓aug4, ↓aug5, ↓aug6, ↓aug7, ↓aug8, ↓aug9, ↓aug10, ↓aug11, ↓aug12, ↓aug13, ↓aug14, ↓aug15, ↓aug16, ↓aug17, ↓wAugS', ↓ws_Ret, ↓ws_RetT, ↓ws_Drop, ↓ws_For, ↓wSq', ↓wRg', ↓rg1, ↓rg2, ↓rg3, ↓rl1, ↓rl2, ↓rl3, ↓wEn', ↓enV, ↓wZp', ↓zpVV, ↓zpVB, ↓g_add, ↓g_addL, ↓g_addT, ↓g_iadd, ↓g_sub, ↓g_mul, ↓g_mulL, ↓g_fdiv, ↓g_mod, ↓g_pow, ↓g_lt, ↓g_le, ↓g_gt, ↓g_ge, ↓g_eqI, ↓g_neI, ↓g_is, ↓g_isnt, ↓g_ixT, ↓g_ixL, ↓g_ixD, ↓gl_abs, ↓gl_max, ↓gl_min, ↓gl_int, ↓gl_intB, ↓gl_gcd, ↓gl_lenL, ↓gl_lenT, ↓gl_tupL, ↓gl_tupT, ↓gl_lstL, ↓gl_lstT, ↓gl_rep, ↓gl_sortD, ↓gl_sortL, ↓ngI, ↓slL, ↓slT, ↓slS, ↓bo, ↓io, ↓av0, ↓av1, ↓itL, ↓itT, ↓it0, ↓it1, ↓it2, ↓itB, ↓rtB, ↓rt_v, ↓g_ninI, ↓g_inI, ↓w_Lc, ↓w_LcM, ↓turn_nx, wipeL_cons, wipeL_nil, ↓sw0, ↓sw1, ↓sw2, ↓gix2, ↓app0, ↓app1, ↓app2, ↓appB, ↓isL0, ↓isL1, ↓isL2, ↓isLB, ↓isLv, ↓at_head, ↓v0, ↓v1, ↓v2, ↓v3, ↓v4, ↓v5, ↓v6, ↓v7, ↓v8, ↓v9, ↓v10, ↓v11, ↓v12, ↓v13, ↓v14, ↓v15, ↓v16, ↓v17, ↓t0, ↓t1, ↓t2, ↓t3, ↓t4, ↓t5, ↓t6, ↓t7, ↓t8, ↓setAll0, ↓setAll1, List.set_cons_zero, List.set_cons_succ, decide_eq_true_eq, Bool.not_eq_true', decide_eq_false_iff_not])
      refine ⟨f.v, rfl, fs ++ [f], o2, by simp, by simp [hj], ?_, hB2, rfl⟩
      intro g hg
      rcases List.mem_append.mp hg with hg | hg
      · exact hfo g hg
      · have e : g = f := by simpa using hg
        rw [e]
        exact ⟨hf, hf3⟩
    · rintro acc S' ⟨fs, o2, rfl, hj, hfo, hB2, rfl⟩
      refine ⟨ok_nil _, ?_⟩
      rw [List.length_map] at hj
      refine set_i (f := frs) (y := fs) rfl (fun p hp => hkey _ (hn.errs.2.1 p hp).1.2) (by have := hn.errs.1; omega) ?_
      refine ⟨big_of (by omega) (by rw [List.length_map]; omega), small_of.mpr (by rw [rngV_length, List.length_map]; omega), ?_⟩
      refine wl_inv (fun j acc S' => ∃ (ws : List Wd) (o' : SO), acc = ws.map Wd.v ∧ ws.length = j ∧ (∀ f ∈ ws, f.Ok) ∧ BagO o' ∧ S' = [o', oI Fr.v n.falls, oI frs (n.errs ++ [(0 + (i : Int), fs)]), oI wds n.winds, oI PV.int n.lost]) ⟨[], o2, rfl, rfl, by simp, hB2, rfl⟩ ?_ ?_
      · rintro j x acc S' hx ⟨ws, o', rfl, hj, hwo, hB', rfl⟩
        refine ⟨ok_nil _, ?_⟩
        try (simp only [↓w_c, ↓w_e2, ↓we1', ↓p_v, ↓pr0, ↓pr1, ↓pr2, ↓pr3, ↓prA, ↓prB, ↓poL, ↓poD, ↓wB', ↓wt_N, ↓wt_An, ↓wt_Or, ↓wt_Ye, ↓w_Bo, ↓w_An, ↓w_Or, ↓w_If, ↓ws_If, ↓wa_Nil, ↓wa_Cons, ↓wTup', ↓wLst', ↓wLstM', ↓w_Dct, ↓w_DctM, ↓w_B, ↓w_Call, ↓wMt', ↓pl_nil, ↓pl_cons, ↓wc_P, ↓wc_M, ↓wSl', ↓wo_No, ↓woS', ↓wRlv, ↓wRlm, ↓ws_Nil, ↓ws_Cons, ↓then_nx, ↓then_rt, ↓ws_Asg, ↓wg_Nm, ↓wg_Tp, ↓wgs_Nil, ↓wgs_Cons, ↓wgSb', ↓ws_Par, ↓aug0, ↓aug1, ↓aug2, ↓aug3, ↓aug4, ↓aug5, ↓aug6, ↓aug7, ↓aug8, ↓aug9, ↓aug10, ↓aug11, ↓aug12, ↓aug13, ↓aug14, ↓aug15, ↓aug16, ↓aug17, ↓wAugS', ↓ws_Ret, ↓ws_RetT, ↓ws_Drop, ↓ws_For, ↓wSq', ↓wRg', ↓rg1, ↓rg2, ↓rg3, ↓rl1, ↓rl2, ↓rl3, ↓wEn', ↓enV, ↓wZp', ↓zpVV, ↓zpVB, ↓g_add, ↓g_addL, ↓g_addT, ↓g_iadd, ↓g_sub, ↓g_mul, ↓g_mulL, ↓g_fdiv, ↓g_mod, ↓g_pow, ↓g_lt, ↓g_le, ↓g_gt, ↓g_ge, ↓g_eqI, ↓g_neI, ↓g_is, ↓g_isnt, ↓g_ixT, ↓g_ixL, ↓g_ixD, ↓gl_abs, ↓gl_max, ↓gl_min, ↓gl_int, ↓gl_intB, ↓gl_gcd, ↓gl_lenL, ↓gl_lenT, ↓gl_tupL, ↓gl_tupT, ↓gl_lstL, ↓gl_lstT, ↓gl_rep, ↓gl_sortD, ↓gl_sortL, ↓ngI, ↓slL, ↓slT, ↓slS, ↓bo, ↓io, ↓av0, ↓av1, ↓itL, ↓itT, ↓it0, ↓it1, ↓it2, ↓itB, ↓rtB, ↓rt_v, ↓g_ninI, ↓g_inI, ↓w_Lc, ↓w_LcM, ↓turn_nx, wipeL_cons, wipeL_nil, ↓sw0, ↓sw1, ↓sw2, ↓gix2, ↓app0, ↓app1, ↓app2, ↓appB, ↓isL0, ↓isL1, ↓isL2, ↓isLB, ↓isLv, ↓at_head, ↓v0, ↓v1, ↓v2, ↓v3, ↓v4, ↓v5, ↓v6, ↓v7, ↓v8, ↓v9, ↓v10, ↓v11, ↓v12, ↓v13, ↓v14, ↓v15, ↓v16, ↓v17, ↓t0, ↓t1, ↓t2, ↓t3, ↓t4, ↓t5, ↓t6, ↓t7, ↓t8, ↓setAll0, ↓setAll1, List.set_cons_zero, List.set_cons_succ, decide_eq_true_eq, Bool.not_eq_true', decide_eq_false_iff_not, ↓sx0, ↓sx1, ↓sx3, ↓bx2, ↓bx3])
        refine ⟨rfl, w_wind hB' hs.b.wd fun f o2 hf hB2 => ?_⟩
        try (simp only [↓w_c, ↓w_e2, ↓we1', ↓p_v, ↓pr0, ↓pr1, ↓pr2, ↓pr3, ↓prA, ↓prB, ↓poL, ↓poD, ↓wB', ↓wt_N, ↓wt_An, ↓wt_Or, ↓wt_Ye, ↓w_Bo, ↓w_An, ↓w_Or, ↓w_If, ↓ws_If, ↓wa_Nil, ↓wa_Cons, ↓wTup', ↓wLst', ↓wLstM', ↓w_Dct, ↓w_DctM, ↓w_B, ↓w_Call, ↓wMt', ↓pl_nil, ↓pl_cons, ↓wc_P, ↓wc_M, ↓wSl', ↓wo_No, ↓woS', ↓wRlv, ↓wRlm, ↓ws_Nil, ↓ws_Cons, ↓then_nx, ↓then_rt, ↓ws_Asg, ↓wg_Nm, ↓wg_Tp, ↓wgs_Nil, ↓wgs_Cons, ↓wgSb', ↓ws_Par, ↓aug0, ↓aug1, ↓aug2, ↓aug3, ↓aug4, ↓aug5, ↓aug6, ↓aug7, ↓aug8, ↓aug9, ↓aug10, ↓aug11, ↓aug12, ↓aug13, ↓aug14, ↓aug15, ↓aug16, ↓aug17, ↓wAugS', ↓ws_Ret, ↓ws_RetT, ↓ws_Drop, ↓ws_For, ↓wSq', ↓wRg', ↓rg1, ↓rg2, ↓rg3, ↓rl1, ↓rl2, ↓rl3, ↓wEn', ↓enV, ↓wZp', ↓zpVV, ↓zpVB, ↓g_add, ↓g_addL, ↓g_addT, ↓g_iadd, ↓g_sub, ↓g_mul, ↓g_mulL, ↓g_fdiv, ↓g_mod, ↓g_pow, ↓g_lt, ↓g_le, ↓g_gt, ↓g_ge, ↓g_eqI, ↓g_neI, ↓g_is, ↓g_isnt, ↓g_ixT, ↓g_ixL, ↓g_ixD, ↓gl_abs, ↓gl_max, ↓gl_min, ↓gl_int, ↓gl_intB, ↓gl_gcd, ↓gl_lenL, ↓gl_lenT, ↓gl_tupL, ↓gl_tupT, ↓gl_lstL, ↓gl_lstT, ↓gl_rep, ↓gl_sortD, ↓gl_sortL, ↓ngI, ↓slL, ↓slT, ↓slS, ↓bo, ↓io, ↓av0, ↓av1, ↓itL, ↓itT, ↓it0, ↓it1, ↓it2, ↓itB, ↓rtB, ↓rt_v, ↓g_ninI, ↓g_inI, ↓w_Lc, ↓w_LcM, ↓turn_nx, wipeL_cons, wipeL_nil, ↓sw0, ↓sw1, ↓sw2, ↓gix2, ↓app0, ↓app1, ↓app2, ↓appB, ↓isL0, ↓isL1, ↓isL2, ↓isLB, ↓isLv, ↓at_head, ↓v0, ↓v1, ↓v2, ↓v3, ↓v4, ↓v5, ↓v6, ↓v7, ↓v8, ↓v9, ↓v10, ↓v11, ↓v12, ↓v13, ↓v14, ↓v15, ↓v16, ↓v17, ↓t0, ↓t1, ↓t2, ↓t3, ↓t4, ↓t5, ↓t6, ↓t7, ↓t8, ↓setAll0, ↓setAll1, List.set_cons_zero, List.set_cons_succ, decide_eq_true_eq, Bool.not_eq_true', decide_eq_false_iff_not])
        refine ⟨f.v, rfl, ws ++ [f], o2, by simp, by simp [hj], ?_, hB2, rfl⟩
        intro g hg
        rcases List.mem_append.mp hg with hg | hg
        · exact hwo g hg
        · have e : g = f := by simpa using hg
          rw [e]
          exact hf
      · rintro acc S' ⟨ws, o3, rfl, hj2, hwo, hB3, rfl⟩
        refine ⟨ok_nil _, ?_⟩
        rw [rngV_length, List.length_map] at hj2
        have hj3 : ws.length = s.sc.length + 1 := by omega
        refine set_i (f := wds) (y := ws) rfl (fun p hp => hkey _ (hn.winds.2 p hp).1.2) (by have := hn.winds.1; omega) ?_
        refine ⟨mul_l (by decide) (by decide), rfl, w_take hB3 (by decide) (by decide) fun way o4 hB4 y0 y1 => ?_⟩
        have n2 : (⟨n.falls, n.errs ++ [(0 + (i : Int), fs)], n.winds ++ [(0 + (i : Int), ws)], n.lost⟩ : Night).Ok s.sc.length (i + 1) := by
          refine ⟨⟨Nat.le_succ_of_le hn.falls.1, fun p hp => ⟨⟨(hn.falls.2 p hp).1.1, ?_⟩, (hn.falls.2 p hp).2⟩⟩, ⟨?_, ?_, ?_⟩, ⟨?_, ?_⟩, ⟨Nat.le_succ_of_le hn.lost.1, fun p hp => ⟨⟨(hn.lost.2 p hp).1.1, ?_⟩, (hn.lost.2 p hp).2⟩⟩⟩
          · have := (hn.falls.2 p hp).1.2
            omega
          · have := hn.errs.1
            show (n.errs ++ [(0 + (i : Int), fs)]).length ≤ i + 1
            simp
            omega
          · intro p hp
            rcases List.mem_append.mp hp with hp | hp
            · obtain ⟨⟨a1, a2⟩, a3⟩ := hn.errs.2.1 p hp
              exact ⟨⟨a1, by omega⟩, a3⟩
            · have e : p = (0 + (i : Int), fs) := by simpa using hp
              subst e
              exact ⟨⟨by show 0 ≤ 0 + (i : Int); omega, by show 0 + (i : Int) < _; omega⟩, hj, hfo⟩
          · intro m hm
            by_cases e : m = i
            · subst e
              exact ⟨(0 + (m : Int), fs), by simp, by simp⟩
            · obtain ⟨p, hp, e2⟩ := hn.errs.2.2 m (by omega)
              exact ⟨p, List.mem_append.mpr (.inl hp), e2⟩
          · have := hn.winds.1
            show (n.winds ++ [(0 + (i : Int), ws)]).length ≤ i + 1
            simp
            omega
          · intro p hp
            rcases List.mem_append.mp hp with hp | hp
            · obtain ⟨⟨a1, a2⟩, a3⟩ := hn.winds.2 p hp
              exact ⟨⟨a1, by omega⟩, a3⟩
            · have e : p = (0 + (i : Int), ws) := by simpa using hp
              subst e
              exact ⟨⟨by show 0 ≤ 0 + (i : Int); omega, by show 0 + (i : Int) < _; omega⟩, hj3, hwo⟩
          · have := (hn.lost.2 p hp).1.2
            omega
        show W b__law_night_1_3 _ [o4, oI Fr.v n.falls, oI frs (n.errs ++ [(0 + (i : Int), fs)]), oI wds (n.winds ++ [(0 + (i : Int), ws)]), oI PV.int n.lost] _
        unfold b__law_night_1_3 b__law_night_1_4
        try (simp only [↓w_c, ↓w_e2, ↓we1', ↓p_v, ↓pr0, ↓pr1, ↓pr2, ↓pr3, ↓prA, ↓prB, ↓poL, ↓poD, ↓wB', ↓wt_N, ↓wt_An, ↓wt_Or, ↓wt_Ye, ↓w_Bo, ↓w_An, ↓w_Or, ↓w_If, ↓ws_If, ↓wa_Nil, ↓wa_Cons, ↓wTup', ↓wLst', ↓wLstM', ↓w_Dct, ↓w_DctM, ↓w_B, ↓w_Call, ↓wMt', ↓pl_nil, ↓pl_cons, ↓wc_P, ↓wc_M, ↓wSl', ↓wo_No, ↓woS', ↓wRlv, ↓wRlm, ↓ws_Nil, ↓ws_Cons, ↓then_nx, ↓then_rt, ↓ws_Asg, ↓wg_Nm, ↓wg_Tp, ↓wgs_Nil, ↓wgs_Cons, ↓wgSb', ↓ws_Par, ↓aug0, ↓aug1, ↓aug2, ↓aug3, ↓aug4, ↓aug5, ↓aug6, ↓aug7, ↓aug8, ↓aug9, ↓aug10, ↓aug11, ↓aug12, ↓aug13, ↓aug14, ↓aug15, ↓aug16, ↓aug17, ↓wAugS', ↓ws_Ret, ↓ws_RetT, ↓ws_Drop, ↓ws_For, ↓wSq', ↓wRg', ↓rg1, ↓rg2, ↓rg3, ↓rl1, ↓rl2, ↓rl3, ↓wEn', ↓enV, ↓wZp', ↓zpVV, ↓zpVB, ↓g_add, ↓g_addL, ↓g_addT, ↓g_iadd, ↓g_sub, ↓g_mul, ↓g_mulL, ↓g_fdiv, ↓g_mod, ↓g_pow, ↓g_lt, ↓g_le, ↓g_gt, ↓g_ge, ↓g_eqI, ↓g_neI, ↓g_is, ↓g_isnt, ↓g_ixT, ↓g_ixL, ↓g_ixD, ↓gl_abs, ↓gl_max, ↓gl_min, ↓gl_int, ↓gl_intB, ↓gl_gcd, ↓gl_lenL, ↓gl_lenT, ↓gl_tupL, ↓gl_tupT, ↓gl_lstL, ↓gl_lstT, ↓gl_rep, ↓gl_sortD, ↓gl_sortL, ↓ngI, ↓slL, ↓slT, ↓slS, ↓bo, ↓io, ↓av0, ↓av1, ↓itL, ↓itT, ↓it0, ↓it1, ↓it2, ↓itB, ↓rtB, ↓rt_v, ↓g_ninI, ↓g_inI, ↓w_Lc, ↓w_LcM, ↓turn_nx, wipeL_cons, wipeL_nil, ↓sw0, ↓sw1, ↓sw2, ↓gix2, ↓app0, ↓app1, ↓app2, ↓appB, ↓isL0, ↓isL1, ↓isL2, ↓isLB, ↓isLv, ↓at_head, ↓v0, ↓v1, ↓v2, ↓v3, ↓v4, ↓v5, ↓v6, ↓v7, ↓v8, ↓v9, ↓v10, ↓v11, ↓v12, ↓v13, ↓v14, ↓v15, ↓v16, ↓v17, ↓t0, ↓t1, ↓t2, ↓t3, ↓t4, ↓t5, ↓t6, ↓t7, ↓t8, ↓setAll0, ↓setAll1, List.set_cons_zero, List.set_cons_succ, decide_eq_true_eq, Bool.not_eq_true', decide_eq_false_iff_not, ↓sx0, ↓sx1, ↓sx3, ↓bx2, ↓bx3])
        by_cases hw0 : way = 0
        · subst hw0
          rw [if_pos rfl]
          refine ⟨rfl, w_moment hB4 hs fun f o5 hf hB5 => ?_⟩
          refine set_i (f := Fr.v) (y := f) rfl (fun p hp => hkey _ (hn.falls.2 p hp).1.2) (by have := hn.falls.1; omega) ?_
          rw [if_neg (by decide)]
          refine ⟨⟨n.falls ++ [(0 + (i : Int), f)], n.errs ++ [(0 + (i : Int), fs)], n.winds ++ [(0 + (i : Int), ws)], n.lost⟩, o5, _, _, _, _, ⟨⟨?_, ?_⟩, n2.errs, n2.winds, n2.lost⟩, hB5, rfl, rfl⟩
          · have := hn.falls.1
            show (n.falls ++ [(0 + (i : Int), f)]).length ≤ i + 1
            simp
            omega
          · intro p hp
            rcases List.mem_append.mp hp with hp | hp
            · exact n2.falls.2 p hp
            · have e : p = (0 + (i : Int), f) := by simpa using hp
              subst e
              exact ⟨⟨by show 0 ≤ 0 + (i : Int); omega, by show 0 + (i : Int) < _; omega⟩, hf⟩
        · rw [if_neg hw0, if_pos (show way = 1 by omega)]
          refine ⟨rfl, w_take hB4 (by rw [List.length_map]; omega) (by rw [List.length_map]; omega) fun v o5 hB5 y2 y3 => ?_⟩
          rw [List.length_map] at y3
          refine set_i (f := PV.int) (y := v) rfl (fun p hp => hkey _ (hn.lost.2 p hp).1.2) (by have := hn.lost.1; omega) ?_
          refine ⟨⟨n.falls, n.errs ++ [(0 + (i : Int), fs)], n.winds ++ [(0 + (i : Int), ws)], n.lost ++ [(0 + (i : Int), v)]⟩, o5, _, _, _, _, ⟨n2.falls, n2.errs, n2.winds, ?_, ?_⟩, hB5, rfl, rfl⟩
          · have := hn.lost.1
            show (n.lost ++ [(0 + (i : Int), v)]).length ≤ i + 1
            simp
            omega
          · intro p hp
            rcases List.mem_append.mp hp with hp | hp
            · exact n2.lost.2 p hp
            · have e : p = (0 + (i : Int), v) := by simpa using hp
              subst e
              exact ⟨⟨by show 0 ≤ 0 + (i : Int); omega, by show 0 + (i : Int) < _; omega⟩, y2, y3⟩
  · rintro r S' ⟨n, o1, a, b, c, d, hn, hB1, rfl, rfl⟩
    rw [rngV_length, List.length_map] at hn
    refine ⟨ok_nil _, ?_⟩
    try (simp only [↓w_c, ↓w_e2, ↓we1', ↓p_v, ↓pr0, ↓pr1, ↓pr2, ↓pr3, ↓prA, ↓prB, ↓poL, ↓poD, ↓wB', ↓wt_N, ↓wt_An, ↓wt_Or, ↓wt_Ye, ↓w_Bo, ↓w_An, ↓w_Or, ↓w_If, ↓ws_If, ↓wa_Nil, ↓wa_Cons, ↓wTup', ↓wLst', ↓wLstM', ↓w_Dct, ↓w_DctM, ↓w_B, ↓w_Call, ↓wMt', ↓pl_nil, ↓pl_cons, ↓wc_P, ↓wc_M, ↓wSl', ↓wo_No, ↓woS', ↓wRlv, ↓wRlm, ↓ws_Nil, ↓ws_Cons, ↓then_nx, ↓then_rt, ↓ws_Asg, ↓wg_Nm, ↓wg_Tp, ↓wgs_Nil, ↓wgs_Cons, ↓wgSb', ↓ws_Par, ↓aug0, ↓aug1, ↓aug2, ↓aug3, ↓aug4, ↓aug5, ↓aug6, ↓aug7, ↓aug8, ↓aug9, ↓aug10, ↓aug11, ↓aug12, ↓aug13, ↓aug14, ↓aug15, ↓aug16, ↓aug17, ↓wAugS', ↓ws_Ret, ↓ws_RetT, ↓ws_Drop, ↓ws_For, ↓wSq', ↓wRg', ↓rg1, ↓rg2, ↓rg3, ↓rl1, ↓rl2, ↓rl3, ↓wEn', ↓enV, ↓wZp', ↓zpVV, ↓zpVB, ↓g_add, ↓g_addL, ↓g_addT, ↓g_iadd, ↓g_sub, ↓g_mul, ↓g_mulL, ↓g_fdiv, ↓g_mod, ↓g_pow, ↓g_lt, ↓g_le, ↓g_gt, ↓g_ge, ↓g_eqI, ↓g_neI, ↓g_is, ↓g_isnt, ↓g_ixT, ↓g_ixL, ↓g_ixD, ↓gl_abs, ↓gl_max, ↓gl_min, ↓gl_int, ↓gl_intB, ↓gl_gcd, ↓gl_lenL, ↓gl_lenT, ↓gl_tupL, ↓gl_tupT, ↓gl_lstL, ↓gl_lstT, ↓gl_rep, ↓gl_sortD, ↓gl_sortL, ↓ngI, ↓slL, ↓slT, ↓slS, ↓bo, ↓io, ↓av0, ↓av1, ↓itL, ↓itT, ↓it0, ↓it1, ↓it2, ↓itB, ↓rtB, ↓rt_v, ↓g_ninI, ↓g_inI, ↓w_Lc, ↓w_LcM, ↓turn_nx, wipeL_cons, wipeL_nil, ↓sw0, ↓sw1, ↓sw2, ↓gix2, ↓app0, ↓app1, ↓app2, ↓appB, ↓isL0, ↓isL1, ↓isL2, ↓isLB, ↓isLv, ↓at_head, ↓v0, ↓v1, ↓v2, ↓v3, ↓v4, ↓v5, ↓v6, ↓v7, ↓v8, ↓v9, ↓v10, ↓v11, ↓v12, ↓v13, ↓v14, ↓v15, ↓v16, ↓v17, ↓t0, ↓t1, ↓t2, ↓t3, ↓t4, ↓t5, ↓t6, ↓t7, ↓t8, ↓setAll0, ↓setAll1, List.set_cons_zero, List.set_cons_succ, decide_eq_true_eq, Bool.not_eq_true', decide_eq_false_iff_not, ↓sx0, ↓sx1, ↓sx3, ↓bx2, ↓bx3])
    exact ⟨rfl, _, _, rfl, by simp, rfl, k n o1 (by simpa using hn) hB1⟩
end K61

namespace K61
open PySem PySem.Spec PyProof.Rows L2 Dn
section
variable {n : Night} {Q : PV → Prop}
theorem nx0 : G ixP n.v (.int 0) Q ↔ Q (dI Fr.v n.falls) := (g_ixT (xs := [dI Fr.v n.falls, dI frs n.errs, dI wds n.winds, dI PV.int n.lost])).trans t0
theorem nx1 : G ixP n.v (.int 1) Q ↔ Q (dI frs n.errs) := (g_ixT (xs := [dI Fr.v n.falls, dI frs n.errs, dI wds n.winds, dI PV.int n.lost])).trans t1
theorem nx3 : G ixP n.v (.int 3) Q ↔ Q (dI PV.int n.lost) := (g_ixT (xs := [dI Fr.v n.falls, dI frs n.errs, dI wds n.winds, dI PV.int n.lost])).trans t3
theorem ix_map {α : Type} {f : α → PV} {l : List α} {i : Nat} {x : α} (h : l[i]? = some x) : G ixP (.tup (l.map f)) (.int i) Q ↔ Q (f x) := (g_ixT (xs := l.map f)).trans (at_of (by rw [Dn.atI_nat, List.getElem?_map, h]; rfl))
theorem ixl_map {α : Type} {f : α → PV} {l : List α} {i : Nat} {x : α} (h : l[i]? = some x) : G ixP (.lst (l.map f)) (.int i) Q ↔ Q (f x) := (g_ixL (xs := l.map f)).trans (at_of (by rw [Dn.atI_nat, List.getElem?_map, h]; rfl))
theorem neNil {xs : List PV} (h : dataOk (.lst xs) = true) : G neP (.lst xs) (.lst []) Q ↔ Q (.bl (!xs.isEmpty)) := by
  refine (G_of (z := .bl (!eqvP (.lst xs) (.lst []))) ?_).trans ?_
  · unfold neP
    rw [h]
    rfl
  · cases xs with
    | nil => exact Iff.rfl
    | cons x xs => exact Iff.rfl
theorem fr_data (l : List Fr) : dataOk (.lst (l.map Fr.v)) = true := by
  unfold dataOk
  rw [Bool.and_eq_true, decide_eq_true_eq]
  constructor
  · show plainL (l.map Fr.v) = true
    refine plainL_of fun x hx => ?_
    obtain ⟨f, _, rfl⟩ := List.mem_map.mp hx
    rfl
  · show depL (l.map Fr.v) + 1 ≤ 50
    have : depL (l.map Fr.v) ≤ 1 := depL_of fun x hx => by
      obtain ⟨t, _, rfl⟩ := List.mem_map.mp hx
      exact Nat.le_refl _
    omega
end
/-- the lesser of what is known of a fall -/
def leastP : List Fr → PV
  | [] => .non
  | [a] => a.v
  | a :: b :: _ => if b.lt a = true then b.v else a.v
/-- the writing that is lost, as a fall -/
def lostF (s : Show) (n : Night) (c : Int) : List Fr := match atK c n.lost, atK c n.errs with
  | some i, some fs => match s.tl[i.toNat]?, fs[i.toNat]? with
    | some t, some f => [Fr.sum ⟨t.l - s.b.lag, 1⟩ f]
    | _, _ => []
  | _, _ => []
def fallL (s : Show) (n : Night) (c : Int) : List Fr := (atK c n.falls).toList ++ lostF s n c
theorem leave_ok {s : Show} (hs : s.Ok) {t : Tm} (ht : t ∈ s.tl) : (⟨t.l - s.b.lag, 1⟩ : Fr).n.natAbs ≤ 2 ^ 20 ∧ (⟨t.l - s.b.lag, 1⟩ : Fr).Ok := by
  have h1 := (tl_ok hs t ht).2.1
  have h2 := hs.b.fl
  have h3 := hs.b.ck
  have h : (t.l - s.b.lag).natAbs ≤ 2 ^ 20 := by
    unfold Bnd.lag
    omega
  exact ⟨h, ⟨Nat.le_trans h (by decide), (by decide : (1 : Int) ≤ 1), (by decide : (1 : Int) ≤ 1000)⟩⟩
theorem lost_cases {s : Show} {n : Night} {c : Nat} (hn : n.Ok s.sc.length s.pads.length) (hc : c < s.pads.length) : (atK (c : Int) n.lost = none ∧ lostF s n c = []) ∨
    ∃ (i : Nat) (fs : List Fr) (t : Tm) (f : Fr), atK (c : Int) n.lost = some (i : Int) ∧ atK (c : Int) n.errs = some fs ∧ s.tl[i]? = some t ∧ fs[i]? = some f ∧ (f.Ok ∧ f.n.natAbs ≤ 2 ^ 30) ∧ t ∈ s.tl ∧ lostF s n c = [Fr.sum ⟨t.l - s.b.lag, 1⟩ f] := by
  unfold lostF
  cases hl : atK (c : Int) n.lost with
  | none => exact .inl ⟨rfl, rfl⟩
  | some i =>
    obtain ⟨_, h0, h1⟩ := hn.lost.2 _ (atK_mem hl)
    obtain ⟨fs, hfs⟩ := atK_some (hn.errs.2.2 c hc)
    obtain ⟨_, hlen, hfo⟩ := hn.errs.2.1 _ (atK_mem hfs)
    have h0' : 0 ≤ i := h0
    have h1' : i < s.sc.length := h1
    obtain ⟨j, rfl⟩ := Int.eq_ofNat_of_zero_le h0'
    have hj : j < s.sc.length := by omega
    have hlen' : fs.length = s.sc.length := hlen
    have e1 : s.tl[j]? = some (s.tl[j]'(by rw [tl_len]; exact hj)) := List.getElem?_eq_getElem _
    have e2 : fs[j]? = some (fs[j]'(by omega)) := List.getElem?_eq_getElem _
    refine .inr ⟨j, fs, _, _, rfl, hfs, e1, e2, hfo _ (List.getElem_mem _), List.getElem_mem _, ?_⟩
    rw [hfs]
    show (match s.tl[j]?, fs[j]? with
      | some t, some f => [Fr.sum ⟨t.l - s.b.lag, 1⟩ f]
      | _, _ => []) = _
    rw [e1, e2]
theorem sum_ok2 {a : Int} {y : Fr} (h : (⟨a, 1⟩ : Fr).n.natAbs ≤ 2 ^ 20) (hy : y.Ok) (hn : y.n.natAbs ≤ 2 ^ 30) : (Fr.sum ⟨a, 1⟩ y).Ok := by
  have hd := hy.d
  refine ovr_ok ?_ (by show 1 ≤ 1 * y.d; omega) (by show 1 * y.d ≤ 1000; omega)
  have a1 : Bd (2 ^ 20) a := h
  have a2 : Bd 1000 y.d := Bd.of (by omega) (by omega)
  have a3 := a1.mul a2
  unfold Bd at a3
  show (a * y.d + y.n * 1).natAbs ≤ 2 ^ 40
  omega
theorem endB {S : Sto} {z : SO} {Q : Sto → Prop} (q : Q S) : S.length ≤ (S ++ [z]).length ∧ Q (List.take S.length (S ++ [z])) := by
  refine ⟨by simp, ?_⟩
  rw [show List.take S.length (S ++ [z]) = S by simp]
  exact q
theorem w_fall {S : Sto} {s : Show} {n : Night} {c : Nat} {Q : RV → Sto → Prop} (hs : s.Ok) (hn : n.Ok s.sc.length s.pads.length) (hc : c < s.pads.length) (q : Q (.v (leastP (fallL s n c))) S) : WC c__law_fall [.v s.v, .v n.v, .v (.int c)] S Q := by
  refine wc_d rfl ?_
  unfold m__law_fall
  show W _ [some (.v s.v), some (.v n.v), some (.v (.int c)), none, none, none] _ _
  have tail : ∀ (L : List Fr) (y : Option RV), L.length ≤ 2 → (∀ f ∈ L, f.Ok) → Q (.v (leastP L)) S → W d__law_fall_2 [some (.v s.v), some (.v n.v), some (.v (.int c)), some (.ref S.length), y, none] (S ++ [.lst (L.map Fr.v)]) (RT S.length Q) := by
    intro L y hL ho hq
    unfold d__law_fall_2 d__law_fall_3
    try (simp only [↓w_c, ↓w_e2, ↓we1', ↓p_v, ↓pr0, ↓pr1, ↓pr2, ↓pr3, ↓prA, ↓prB, ↓poL, ↓poD, ↓wB', ↓wt_N, ↓wt_An, ↓wt_Or, ↓wt_Ye, ↓w_Bo, ↓w_An, ↓w_Or, ↓w_If, ↓ws_If, ↓wa_Nil, ↓wa_Cons, ↓wTup', ↓wLst', ↓wLstM', ↓w_Dct, ↓w_DctM, ↓w_B, ↓w_Call, ↓wMt', ↓pl_nil, ↓pl_cons, ↓wc_P, ↓wc_M, ↓wSl', ↓wo_No, ↓woS', ↓wRlv, ↓wRlm, ↓ws_Nil, ↓ws_Cons, ↓then_nx, ↓then_rt, ↓ws_Asg, ↓wg_Nm, ↓wg_Tp, ↓wgs_Nil, ↓wgs_Cons, ↓wgSb', ↓ws_Par, ↓aug0, ↓aug1, ↓aug2, ↓aug3, ↓aug4, ↓aug5, ↓aug6, ↓aug7, ↓aug8, ↓aug9, ↓aug10, ↓aug11, ↓aug12, ↓aug13, ↓aug14, ↓aug15, ↓aug16, ↓aug17, ↓wAugS', ↓ws_Ret, ↓ws_RetT, ↓ws_Drop, ↓ws_For, ↓wSq', ↓wRg', ↓rg1, ↓rg2, ↓rg3, ↓rl1, ↓rl2, ↓rl3, ↓wEn', ↓enV, ↓wZp', ↓zpVV, ↓zpVB, ↓g_add, ↓g_addL, ↓g_addT, ↓g_iadd, ↓g_sub, ↓g_mul, ↓g_mulL, ↓g_fdiv, ↓g_mod, ↓g_pow, ↓g_lt, ↓g_le, ↓g_gt, ↓g_ge, ↓g_eqI, ↓g_neI, ↓g_is, ↓g_isnt, ↓g_ixT, ↓g_ixL, ↓g_ixD, ↓gl_abs, ↓gl_max, ↓gl_min, ↓gl_int, ↓gl_intB, ↓gl_gcd, ↓gl_lenL, ↓gl_lenT, ↓gl_tupL, ↓gl_tupT, ↓gl_lstL, ↓gl_lstT, ↓gl_rep, ↓gl_sortD, ↓gl_sortL, ↓ngI, ↓slL, ↓slT, ↓slS, ↓bo, ↓io, ↓av0, ↓av1, ↓itL, ↓itT, ↓it0, ↓it1, ↓it2, ↓itB, ↓rtB, ↓rt_v, ↓g_ninI, ↓g_inI, ↓w_Lc, ↓w_LcM, ↓turn_nx, wipeL_cons, wipeL_nil, ↓sw0, ↓sw1, ↓sw2, ↓gix2, ↓app0, ↓app1, ↓app2, ↓appB, ↓isL0, ↓isL1, ↓isL2, ↓isLB, ↓isLv, ↓at_head, ↓v0, ↓v1, ↓v2, ↓v3, ↓v4, ↓v5, ↓v6, ↓v7, ↓v8, ↓v9, ↓v10, ↓v11, ↓v12, ↓v13, ↓v14, ↓v15, ↓v16, ↓v17, ↓t0, ↓t1, ↓t2, ↓t3, ↓t4, ↓t5, ↓t6, ↓t7, ↓t8, ↓setAll0, ↓setAll1, List.set_cons_zero, List.set_cons_succ, decide_eq_true_eq, Bool.not_eq_true', decide_eq_false_iff_not])
    refine ⟨rfl, ?_⟩
    rw [neNil (fr_data L)]
    rcases L with _ | ⟨a, _ | ⟨b, L⟩⟩
    · try (simp only [↓w_c, ↓w_e2, ↓we1', ↓p_v, ↓pr0, ↓pr1, ↓pr2, ↓pr3, ↓prA, ↓prB, ↓poL, ↓poD, ↓wB', ↓wt_N, ↓wt_An, ↓wt_Or, ↓wt_Ye, ↓w_Bo, ↓w_An, ↓w_Or, ↓w_If, ↓ws_If, ↓wa_Nil, ↓wa_Cons, ↓wTup', ↓wLst', ↓wLstM', ↓w_Dct, ↓w_DctM, ↓w_B, ↓w_Call, ↓wMt', ↓pl_nil, ↓pl_cons, ↓wc_P, ↓wc_M, ↓wSl', ↓wo_No, ↓woS', ↓wRlv, ↓wRlm, ↓ws_Nil, ↓ws_Cons, ↓then_nx, ↓then_rt, ↓ws_Asg, ↓wg_Nm, ↓wg_Tp, ↓wgs_Nil, ↓wgs_Cons, ↓wgSb', ↓ws_Par, ↓aug0, ↓aug1, ↓aug2, ↓aug3, ↓aug4, ↓aug5, ↓aug6, ↓aug7, ↓aug8, ↓aug9, ↓aug10, ↓aug11, ↓aug12, ↓aug13, ↓aug14, ↓aug15, ↓aug16, ↓aug17, ↓wAugS', ↓ws_Ret, ↓ws_RetT, ↓ws_Drop, ↓ws_For, ↓wSq', ↓wRg', ↓rg1, ↓rg2, ↓rg3, ↓rl1, ↓rl2, ↓rl3, ↓wEn', ↓enV, ↓wZp', ↓zpVV, ↓zpVB, ↓g_add, ↓g_addL, ↓g_addT, ↓g_iadd, ↓g_sub, ↓g_mul, ↓g_mulL, ↓g_fdiv, ↓g_mod, ↓g_pow, ↓g_lt, ↓g_le, ↓g_gt, ↓g_ge, ↓g_eqI, ↓g_neI, ↓g_is, ↓g_isnt, ↓g_ixT, ↓g_ixL, ↓g_ixD, ↓gl_abs, ↓gl_max, ↓gl_min, ↓gl_int, ↓gl_intB, ↓gl_gcd, ↓gl_lenL, ↓gl_lenT, ↓gl_tupL, ↓gl_tupT, ↓gl_lstL, ↓gl_lstT, ↓gl_rep, ↓gl_sortD, ↓gl_sortL, ↓ngI, ↓slL, ↓slT, ↓slS, ↓bo, ↓io, ↓av0, ↓av1, ↓itL, ↓itT, ↓it0, ↓it1, ↓it2, ↓itB, ↓rtB, ↓rt_v, ↓g_ninI, ↓g_inI, ↓w_Lc, ↓w_LcM, ↓turn_nx, wipeL_cons, wipeL_nil, ↓sw0, ↓sw1, ↓sw2, ↓gix2, ↓app0, ↓app1, ↓app2, ↓appB, ↓isL0, ↓isL1, ↓isL2, ↓isLB, ↓isLv, ↓at_head, ↓v0, ↓v1, ↓v2, ↓v3, ↓v4, ↓v5, ↓v6, ↓v7, ↓v8, ↓v9, ↓v10, ↓v11, ↓v12, ↓v13, ↓v14, ↓v15, ↓v16, ↓v17, ↓t0, ↓t1, ↓t2, ↓t3, ↓t4, ↓t5, ↓t6, ↓t7, ↓t8, ↓setAll0, ↓setAll1, List.set_cons_zero, List.set_cons_succ, decide_eq_true_eq, Bool.not_eq_true', decide_eq_false_iff_not])
      rw [if_neg (by simp), if_neg (by simp), if_neg (by simp)]
      exact endB hq
    · try (simp only [↓w_c, ↓w_e2, ↓we1', ↓p_v, ↓pr0, ↓pr1, ↓pr2, ↓pr3, ↓prA, ↓prB, ↓poL, ↓poD, ↓wB', ↓wt_N, ↓wt_An, ↓wt_Or, ↓wt_Ye, ↓w_Bo, ↓w_An, ↓w_Or, ↓w_If, ↓ws_If, ↓wa_Nil, ↓wa_Cons, ↓wTup', ↓wLst', ↓wLstM', ↓w_Dct, ↓w_DctM, ↓w_B, ↓w_Call, ↓wMt', ↓pl_nil, ↓pl_cons, ↓wc_P, ↓wc_M, ↓wSl', ↓wo_No, ↓woS', ↓wRlv, ↓wRlm, ↓ws_Nil, ↓ws_Cons, ↓then_nx, ↓then_rt, ↓ws_Asg, ↓wg_Nm, ↓wg_Tp, ↓wgs_Nil, ↓wgs_Cons, ↓wgSb', ↓ws_Par, ↓aug0, ↓aug1, ↓aug2, ↓aug3, ↓aug4, ↓aug5, ↓aug6, ↓aug7, ↓aug8, ↓aug9, ↓aug10, ↓aug11, ↓aug12, ↓aug13, ↓aug14, ↓aug15, ↓aug16, ↓aug17, ↓wAugS', ↓ws_Ret, ↓ws_RetT, ↓ws_Drop, ↓ws_For, ↓wSq', ↓wRg', ↓rg1, ↓rg2, ↓rg3, ↓rl1, ↓rl2, ↓rl3, ↓wEn', ↓enV, ↓wZp', ↓zpVV, ↓zpVB, ↓g_add, ↓g_addL, ↓g_addT, ↓g_iadd, ↓g_sub, ↓g_mul, ↓g_mulL, ↓g_fdiv, ↓g_mod, ↓g_pow, ↓g_lt, ↓g_le, ↓g_gt, ↓g_ge, ↓g_eqI, ↓g_neI, ↓g_is, ↓g_isnt, ↓g_ixT, ↓g_ixL, ↓g_ixD, ↓gl_abs, ↓gl_max, ↓gl_min, ↓gl_int, ↓gl_intB, ↓gl_gcd, ↓gl_lenL, ↓gl_lenT, ↓gl_tupL, ↓gl_tupT, ↓gl_lstL, ↓gl_lstT, ↓gl_rep, ↓gl_sortD, ↓gl_sortL, ↓ngI, ↓slL, ↓slT, ↓slS, ↓bo, ↓io, ↓av0, ↓av1, ↓itL, ↓itT, ↓it0, ↓it1, ↓it2, ↓itB, ↓rtB, ↓rt_v, ↓g_ninI, ↓g_inI, ↓w_Lc, ↓w_LcM, ↓turn_nx, wipeL_cons, wipeL_nil, ↓sw0, ↓sw1, ↓sw2, ↓gix2, ↓app0, ↓app1, ↓app2, ↓appB, ↓isL0, ↓isL1, ↓isL2, ↓isLB, ↓isLv, ↓at_head, ↓v0, ↓v1, ↓v2, ↓v3, ↓v4, ↓v5, ↓v6, ↓v7, ↓v8, ↓v9, ↓v10, ↓v11, ↓v12, ↓v13, ↓v14, ↓v15, ↓v16, ↓v17, ↓t0, ↓t1, ↓t2, ↓t3, ↓t4, ↓t5, ↓t6, ↓t7, ↓t8, ↓setAll0, ↓setAll1, List.set_cons_zero, List.set_cons_succ, decide_eq_true_eq, Bool.not_eq_true', decide_eq_false_iff_not])
      rw [if_pos (by rfl)]
      refine t0.mpr ?_
      rw [if_neg (by simp), if_neg (by simp)]
      exact endB hq
    · try (simp only [↓w_c, ↓w_e2, ↓we1', ↓p_v, ↓pr0, ↓pr1, ↓pr2, ↓pr3, ↓prA, ↓prB, ↓poL, ↓poD, ↓wB', ↓wt_N, ↓wt_An, ↓wt_Or, ↓wt_Ye, ↓w_Bo, ↓w_An, ↓w_Or, ↓w_If, ↓ws_If, ↓wa_Nil, ↓wa_Cons, ↓wTup', ↓wLst', ↓wLstM', ↓w_Dct, ↓w_DctM, ↓w_B, ↓w_Call, ↓wMt', ↓pl_nil, ↓pl_cons, ↓wc_P, ↓wc_M, ↓wSl', ↓wo_No, ↓woS', ↓wRlv, ↓wRlm, ↓ws_Nil, ↓ws_Cons, ↓then_nx, ↓then_rt, ↓ws_Asg, ↓wg_Nm, ↓wg_Tp, ↓wgs_Nil, ↓wgs_Cons, ↓wgSb', ↓ws_Par, ↓aug0, ↓aug1, ↓aug2, ↓aug3, ↓aug4, ↓aug5, ↓aug6, ↓aug7, ↓aug8, ↓aug9, ↓aug10, ↓aug11, ↓aug12, ↓aug13, ↓aug14, ↓aug15, ↓aug16, ↓aug17, ↓wAugS', ↓ws_Ret, ↓ws_RetT, ↓ws_Drop, ↓ws_For, ↓wSq', ↓wRg', ↓rg1, ↓rg2, ↓rg3, ↓rl1, ↓rl2, ↓rl3, ↓wEn', ↓enV, ↓wZp', ↓zpVV, ↓zpVB, ↓g_add, ↓g_addL, ↓g_addT, ↓g_iadd, ↓g_sub, ↓g_mul, ↓g_mulL, ↓g_fdiv, ↓g_mod, ↓g_pow, ↓g_lt, ↓g_le, ↓g_gt, ↓g_ge, ↓g_eqI, ↓g_neI, ↓g_is, ↓g_isnt, ↓g_ixT, ↓g_ixL, ↓g_ixD, ↓gl_abs, ↓gl_max, ↓gl_min, ↓gl_int, ↓gl_intB, ↓gl_gcd, ↓gl_lenL, ↓gl_lenT, ↓gl_tupL, ↓gl_tupT, ↓gl_lstL, ↓gl_lstT, ↓gl_rep, ↓gl_sortD, ↓gl_sortL, ↓ngI, ↓slL, ↓slT, ↓slS, ↓bo, ↓io, ↓av0, ↓av1, ↓itL, ↓itT, ↓it0, ↓it1, ↓it2, ↓itB, ↓rtB, ↓rt_v, ↓g_ninI, ↓g_inI, ↓w_Lc, ↓w_LcM, ↓turn_nx, wipeL_cons, wipeL_nil, ↓sw0, ↓sw1, ↓sw2, ↓gix2, ↓app0, ↓app1, ↓app2, ↓appB, ↓isL0, ↓isL1, ↓isL2, ↓isLB, ↓isLv, ↓at_head, ↓v0, ↓v1, ↓v2, ↓v3, ↓v4, ↓v5, ↓v6, ↓v7, ↓v8, ↓v9, ↓v10, ↓v11, ↓v12, ↓v13, ↓v14, ↓v15, ↓v16, ↓v17, ↓t0, ↓t1, ↓t2, ↓t3, ↓t4, ↓t5, ↓t6, ↓t7, ↓t8, ↓setAll0, ↓setAll1, List.set_cons_zero, List.set_cons_succ, decide_eq_true_eq, Bool.not_eq_true', decide_eq_false_iff_not])
      rw [if_pos (by rfl)]
      refine t0.mpr ?_
      rw [if_pos (by simp; omega)]
      refine t1.mpr (t0.mpr ⟨rfl, w_below (ho b (by simp)) (ho a (by simp)) ?_⟩)
      try (simp only [↓w_c, ↓w_e2, ↓we1', ↓p_v, ↓pr0, ↓pr1, ↓pr2, ↓pr3, ↓prA, ↓prB, ↓poL, ↓poD, ↓wB', ↓wt_N, ↓wt_An, ↓wt_Or, ↓wt_Ye, ↓w_Bo, ↓w_An, ↓w_Or, ↓w_If, ↓ws_If, ↓wa_Nil, ↓wa_Cons, ↓wTup', ↓wLst', ↓wLstM', ↓w_Dct, ↓w_DctM, ↓w_B, ↓w_Call, ↓wMt', ↓pl_nil, ↓pl_cons, ↓wc_P, ↓wc_M, ↓wSl', ↓wo_No, ↓woS', ↓wRlv, ↓wRlm, ↓ws_Nil, ↓ws_Cons, ↓then_nx, ↓then_rt, ↓ws_Asg, ↓wg_Nm, ↓wg_Tp, ↓wgs_Nil, ↓wgs_Cons, ↓wgSb', ↓ws_Par, ↓aug0, ↓aug1, ↓aug2, ↓aug3, ↓aug4, ↓aug5, ↓aug6, ↓aug7, ↓aug8, ↓aug9, ↓aug10, ↓aug11, ↓aug12, ↓aug13, ↓aug14, ↓aug15, ↓aug16, ↓aug17, ↓wAugS', ↓ws_Ret, ↓ws_RetT, ↓ws_Drop, ↓ws_For, ↓wSq', ↓wRg', ↓rg1, ↓rg2, ↓rg3, ↓rl1, ↓rl2, ↓rl3, ↓wEn', ↓enV, ↓wZp', ↓zpVV, ↓zpVB, ↓g_add, ↓g_addL, ↓g_addT, ↓g_iadd, ↓g_sub, ↓g_mul, ↓g_mulL, ↓g_fdiv, ↓g_mod, ↓g_pow, ↓g_lt, ↓g_le, ↓g_gt, ↓g_ge, ↓g_eqI, ↓g_neI, ↓g_is, ↓g_isnt, ↓g_ixT, ↓g_ixL, ↓g_ixD, ↓gl_abs, ↓gl_max, ↓gl_min, ↓gl_int, ↓gl_intB, ↓gl_gcd, ↓gl_lenL, ↓gl_lenT, ↓gl_tupL, ↓gl_tupT, ↓gl_lstL, ↓gl_lstT, ↓gl_rep, ↓gl_sortD, ↓gl_sortL, ↓ngI, ↓slL, ↓slT, ↓slS, ↓bo, ↓io, ↓av0, ↓av1, ↓itL, ↓itT, ↓it0, ↓it1, ↓it2, ↓itB, ↓rtB, ↓rt_v, ↓g_ninI, ↓g_inI, ↓w_Lc, ↓w_LcM, ↓turn_nx, wipeL_cons, wipeL_nil, ↓sw0, ↓sw1, ↓sw2, ↓gix2, ↓app0, ↓app1, ↓app2, ↓appB, ↓isL0, ↓isL1, ↓isL2, ↓isLB, ↓isLv, ↓at_head, ↓v0, ↓v1, ↓v2, ↓v3, ↓v4, ↓v5, ↓v6, ↓v7, ↓v8, ↓v9, ↓v10, ↓v11, ↓v12, ↓v13, ↓v14, ↓v15, ↓v16, ↓v17, ↓t0, ↓t1, ↓t2, ↓t3, ↓t4, ↓t5, ↓t6, ↓t7, ↓t8, ↓setAll0, ↓setAll1, List.set_cons_zero, List.set_cons_succ, decide_eq_true_eq, Bool.not_eq_true', decide_eq_false_iff_not])
      by_cases hlt : b.lt a = true
      · rw [if_pos hlt]
        refine t1.mpr (endB ?_)
        have e : leastP (a :: b :: L) = b.v := if_pos hlt
        rw [← e]
        exact hq
      · rw [if_neg hlt]
        refine endB ?_
        have e : leastP (a :: b :: L) = a.v := if_neg hlt
        rw [← e]
        exact hq
  have mid : ∀ L0 : List Fr, L0.length ≤ 1 → (∀ f ∈ L0, f.Ok) → Q (.v (leastP (L0 ++ lostF s n c))) S → W d__law_fall_1 [some (.v s.v), some (.v n.v), some (.v (.int c)), some (.ref S.length), none, none] (S ++ [.lst (L0.map Fr.v)]) (RT S.length Q) := by
    intro L0 hL0 ho0 hq
    unfold d__law_fall_1
    try (simp only [↓w_c, ↓w_e2, ↓we1', ↓p_v, ↓pr0, ↓pr1, ↓pr2, ↓pr3, ↓prA, ↓prB, ↓poL, ↓poD, ↓wB', ↓wt_N, ↓wt_An, ↓wt_Or, ↓wt_Ye, ↓w_Bo, ↓w_An, ↓w_Or, ↓w_If, ↓ws_If, ↓wa_Nil, ↓wa_Cons, ↓wTup', ↓wLst', ↓wLstM', ↓w_Dct, ↓w_DctM, ↓w_B, ↓w_Call, ↓wMt', ↓pl_nil, ↓pl_cons, ↓wc_P, ↓wc_M, ↓wSl', ↓wo_No, ↓woS', ↓wRlv, ↓wRlm, ↓ws_Nil, ↓ws_Cons, ↓then_nx, ↓then_rt, ↓ws_Asg, ↓wg_Nm, ↓wg_Tp, ↓wgs_Nil, ↓wgs_Cons, ↓wgSb', ↓ws_Par, ↓aug0, ↓aug1, ↓aug2, ↓aug3, ↓aug4, ↓aug5, ↓aug6, ↓aug7, ↓aug8, ↓aug9, ↓aug10, ↓aug11, ↓aug12, ↓aug13, ↓aug14, ↓aug15, ↓aug16, ↓aug17, ↓wAugS', ↓ws_Ret, ↓ws_RetT, ↓ws_Drop, ↓ws_For, ↓wSq', ↓wRg', ↓rg1, ↓rg2, ↓rg3, ↓rl1, ↓rl2, ↓rl3, ↓wEn', ↓enV, ↓wZp', ↓zpVV, ↓zpVB, ↓g_add, ↓g_addL, ↓g_addT, ↓g_iadd, ↓g_sub, ↓g_mul, ↓g_mulL, ↓g_fdiv, ↓g_mod, ↓g_pow, ↓g_lt, ↓g_le, ↓g_gt, ↓g_ge, ↓g_eqI, ↓g_neI, ↓g_is, ↓g_isnt, ↓g_ixT, ↓g_ixL, ↓g_ixD, ↓gl_abs, ↓gl_max, ↓gl_min, ↓gl_int, ↓gl_intB, ↓gl_gcd, ↓gl_lenL, ↓gl_lenT, ↓gl_tupL, ↓gl_tupT, ↓gl_lstL, ↓gl_lstT, ↓gl_rep, ↓gl_sortD, ↓gl_sortL, ↓ngI, ↓slL, ↓slT, ↓slS, ↓bo, ↓io, ↓av0, ↓av1, ↓itL, ↓itT, ↓it0, ↓it1, ↓it2, ↓itB, ↓rtB, ↓rt_v, ↓g_ninI, ↓g_inI, ↓w_Lc, ↓w_LcM, ↓turn_nx, wipeL_cons, wipeL_nil, ↓sw0, ↓sw1, ↓sw2, ↓gix2, ↓app0, ↓app1, ↓app2, ↓appB, ↓isL0, ↓isL1, ↓isL2, ↓isLB, ↓isLv, ↓at_head, ↓v0, ↓v1, ↓v2, ↓v3, ↓v4, ↓v5, ↓v6, ↓v7, ↓v8, ↓v9, ↓v10, ↓v11, ↓v12, ↓v13, ↓v14, ↓v15, ↓v16, ↓v17, ↓t0, ↓t1, ↓t2, ↓t3, ↓t4, ↓t5, ↓t6, ↓t7, ↓t8, ↓setAll0, ↓setAll1, List.set_cons_zero, List.set_cons_succ, decide_eq_true_eq, Bool.not_eq_true', decide_eq_false_iff_not, ↓nx0, ↓nx1, ↓nx3, ↓g_inDI])
    rcases lost_cases (s := s) hn hc with ⟨e1, e2⟩ | ⟨i, fs, t, f, e1, e2, e3, e4, ⟨hf, hf3⟩, ht, e5⟩
    · rw [e1, if_neg (by simp)]
      rw [e2, List.append_nil] at hq
      exact tail L0 _ (by omega) ho0 hq
    · rw [e1, if_pos (by rfl)]
      rw [e5] at hq
      refine (g_ixDI e1).mpr ⟨trivial, rfl, w_times hs.sc.1.2 ?_⟩
      try (simp only [↓w_c, ↓w_e2, ↓we1', ↓p_v, ↓pr0, ↓pr1, ↓pr2, ↓pr3, ↓prA, ↓prB, ↓poL, ↓poD, ↓wB', ↓wt_N, ↓wt_An, ↓wt_Or, ↓wt_Ye, ↓w_Bo, ↓w_An, ↓w_Or, ↓w_If, ↓ws_If, ↓wa_Nil, ↓wa_Cons, ↓wTup', ↓wLst', ↓wLstM', ↓w_Dct, ↓w_DctM, ↓w_B, ↓w_Call, ↓wMt', ↓pl_nil, ↓pl_cons, ↓wc_P, ↓wc_M, ↓wSl', ↓wo_No, ↓woS', ↓wRlv, ↓wRlm, ↓ws_Nil, ↓ws_Cons, ↓then_nx, ↓then_rt, ↓ws_Asg, ↓wg_Nm, ↓wg_Tp, ↓wgs_Nil, ↓wgs_Cons, ↓wgSb', ↓ws_Par, ↓aug0, ↓aug1, ↓aug2, ↓aug3, ↓aug4, ↓aug5, ↓aug6, ↓aug7, ↓aug8, ↓aug9, ↓aug10, ↓aug11, ↓aug12, ↓aug13, ↓aug14, ↓aug15, ↓aug16, ↓aug17, ↓wAugS', ↓ws_Ret, ↓ws_RetT, ↓ws_Drop, ↓ws_For, ↓wSq', ↓wRg', ↓rg1, ↓rg2, ↓rg3, ↓rl1, ↓rl2, ↓rl3, ↓wEn', ↓enV, ↓wZp', ↓zpVV, ↓zpVB, ↓g_add, ↓g_addL, ↓g_addT, ↓g_iadd, ↓g_sub, ↓g_mul, ↓g_mulL, ↓g_fdiv, ↓g_mod, ↓g_pow, ↓g_lt, ↓g_le, ↓g_gt, ↓g_ge, ↓g_eqI, ↓g_neI, ↓g_is, ↓g_isnt, ↓g_ixT, ↓g_ixL, ↓g_ixD, ↓gl_abs, ↓gl_max, ↓gl_min, ↓gl_int, ↓gl_intB, ↓gl_gcd, ↓gl_lenL, ↓gl_lenT, ↓gl_tupL, ↓gl_tupT, ↓gl_lstL, ↓gl_lstT, ↓gl_rep, ↓gl_sortD, ↓gl_sortL, ↓ngI, ↓slL, ↓slT, ↓slS, ↓bo, ↓io, ↓av0, ↓av1, ↓itL, ↓itT, ↓it0, ↓it1, ↓it2, ↓itB, ↓rtB, ↓rt_v, ↓g_ninI, ↓g_inI, ↓w_Lc, ↓w_LcM, ↓turn_nx, wipeL_cons, wipeL_nil, ↓sw0, ↓sw1, ↓sw2, ↓gix2, ↓app0, ↓app1, ↓app2, ↓appB, ↓isL0, ↓isL1, ↓isL2, ↓isLB, ↓isLv, ↓at_head, ↓v0, ↓v1, ↓v2, ↓v3, ↓v4, ↓v5, ↓v6, ↓v7, ↓v8, ↓v9, ↓v10, ↓v11, ↓v12, ↓v13, ↓v14, ↓v15, ↓v16, ↓v17, ↓t0, ↓t1, ↓t2, ↓t3, ↓t4, ↓t5, ↓t6, ↓t7, ↓t8, ↓setAll0, ↓setAll1, List.set_cons_zero, List.set_cons_succ, decide_eq_true_eq, Bool.not_eq_true', decide_eq_false_iff_not])
      refine (ixl_map e3).mpr ?_
      unfold Tm.v
      try (simp only [↓w_c, ↓w_e2, ↓we1', ↓p_v, ↓pr0, ↓pr1, ↓pr2, ↓pr3, ↓prA, ↓prB, ↓poL, ↓poD, ↓wB', ↓wt_N, ↓wt_An, ↓wt_Or, ↓wt_Ye, ↓w_Bo, ↓w_An, ↓w_Or, ↓w_If, ↓ws_If, ↓wa_Nil, ↓wa_Cons, ↓wTup', ↓wLst', ↓wLstM', ↓w_Dct, ↓w_DctM, ↓w_B, ↓w_Call, ↓wMt', ↓pl_nil, ↓pl_cons, ↓wc_P, ↓wc_M, ↓wSl', ↓wo_No, ↓woS', ↓wRlv, ↓wRlm, ↓ws_Nil, ↓ws_Cons, ↓then_nx, ↓then_rt, ↓ws_Asg, ↓wg_Nm, ↓wg_Tp, ↓wgs_Nil, ↓wgs_Cons, ↓wgSb', ↓ws_Par, ↓aug0, ↓aug1, ↓aug2, ↓aug3, ↓aug4, ↓aug5, ↓aug6, ↓aug7, ↓aug8, ↓aug9, ↓aug10, ↓aug11, ↓aug12, ↓aug13, ↓aug14, ↓aug15, ↓aug16, ↓aug17, ↓wAugS', ↓ws_Ret, ↓ws_RetT, ↓ws_Drop, ↓ws_For, ↓wSq', ↓wRg', ↓rg1, ↓rg2, ↓rg3, ↓rl1, ↓rl2, ↓rl3, ↓wEn', ↓enV, ↓wZp', ↓zpVV, ↓zpVB, ↓g_add, ↓g_addL, ↓g_addT, ↓g_iadd, ↓g_sub, ↓g_mul, ↓g_mulL, ↓g_fdiv, ↓g_mod, ↓g_pow, ↓g_lt, ↓g_le, ↓g_gt, ↓g_ge, ↓g_eqI, ↓g_neI, ↓g_is, ↓g_isnt, ↓g_ixT, ↓g_ixL, ↓g_ixD, ↓gl_abs, ↓gl_max, ↓gl_min, ↓gl_int, ↓gl_intB, ↓gl_gcd, ↓gl_lenL, ↓gl_lenT, ↓gl_tupL, ↓gl_tupT, ↓gl_lstL, ↓gl_lstT, ↓gl_rep, ↓gl_sortD, ↓gl_sortL, ↓ngI, ↓slL, ↓slT, ↓slS, ↓bo, ↓io, ↓av0, ↓av1, ↓itL, ↓itT, ↓it0, ↓it1, ↓it2, ↓itB, ↓rtB, ↓rt_v, ↓g_ninI, ↓g_inI, ↓w_Lc, ↓w_LcM, ↓turn_nx, wipeL_cons, wipeL_nil, ↓sw0, ↓sw1, ↓sw2, ↓gix2, ↓app0, ↓app1, ↓app2, ↓appB, ↓isL0, ↓isL1, ↓isL2, ↓isLB, ↓isLv, ↓at_head, ↓v0, ↓v1, ↓v2, ↓v3, ↓v4, ↓v5, ↓v6, ↓v7, ↓v8, ↓v9, ↓v10, ↓v11, ↓v12, ↓v13, ↓v14, ↓v15, ↓v16, ↓v17, ↓t0, ↓t1, ↓t2, ↓t3, ↓t4, ↓t5, ↓t6, ↓t7, ↓t8, ↓setAll0, ↓setAll1, List.set_cons_zero, List.set_cons_succ, decide_eq_true_eq, Bool.not_eq_true', decide_eq_false_iff_not, ↓sx0])
      refine ⟨rfl, w_lag ?_⟩
      try (simp only [↓w_c, ↓w_e2, ↓we1', ↓p_v, ↓pr0, ↓pr1, ↓pr2, ↓pr3, ↓prA, ↓prB, ↓poL, ↓poD, ↓wB', ↓wt_N, ↓wt_An, ↓wt_Or, ↓wt_Ye, ↓w_Bo, ↓w_An, ↓w_Or, ↓w_If, ↓ws_If, ↓wa_Nil, ↓wa_Cons, ↓wTup', ↓wLst', ↓wLstM', ↓w_Dct, ↓w_DctM, ↓w_B, ↓w_Call, ↓wMt', ↓pl_nil, ↓pl_cons, ↓wc_P, ↓wc_M, ↓wSl', ↓wo_No, ↓woS', ↓wRlv, ↓wRlm, ↓ws_Nil, ↓ws_Cons, ↓then_nx, ↓then_rt, ↓ws_Asg, ↓wg_Nm, ↓wg_Tp, ↓wgs_Nil, ↓wgs_Cons, ↓wgSb', ↓ws_Par, ↓aug0, ↓aug1, ↓aug2, ↓aug3, ↓aug4, ↓aug5, ↓aug6, ↓aug7, ↓aug8, ↓aug9, ↓aug10, ↓aug11, ↓aug12, ↓aug13, ↓aug14, ↓aug15, ↓aug16, ↓aug17, ↓wAugS', ↓ws_Ret, ↓ws_RetT, ↓ws_Drop, ↓ws_For, ↓wSq', ↓wRg', ↓rg1, ↓rg2, ↓rg3, ↓rl1, ↓rl2, ↓rl3, ↓wEn', ↓enV, ↓wZp', ↓zpVV, ↓zpVB, ↓g_add, ↓g_addL, ↓g_addT, ↓g_iadd, ↓g_sub, ↓g_mul, ↓g_mulL, ↓g_fdiv, ↓g_mod, ↓g_pow, ↓g_lt, ↓g_le, ↓g_gt, ↓g_ge, ↓g_eqI, ↓g_neI, ↓g_is, ↓g_isnt, ↓g_ixT, ↓g_ixL, ↓g_ixD, ↓gl_abs, ↓gl_max, ↓gl_min, ↓gl_int, ↓gl_intB, ↓gl_gcd, ↓gl_lenL, ↓gl_lenT, ↓gl_tupL, ↓gl_tupT, ↓gl_lstL, ↓gl_lstT, ↓gl_rep, ↓gl_sortD, ↓gl_sortL, ↓ngI, ↓slL, ↓slT, ↓slS, ↓bo, ↓io, ↓av0, ↓av1, ↓itL, ↓itT, ↓it0, ↓it1, ↓it2, ↓itB, ↓rtB, ↓rt_v, ↓g_ninI, ↓g_inI, ↓w_Lc, ↓w_LcM, ↓turn_nx, wipeL_cons, wipeL_nil, ↓sw0, ↓sw1, ↓sw2, ↓gix2, ↓app0, ↓app1, ↓app2, ↓appB, ↓isL0, ↓isL1, ↓isL2, ↓isLB, ↓isLv, ↓at_head, ↓v0, ↓v1, ↓v2, ↓v3, ↓v4, ↓v5, ↓v6, ↓v7, ↓v8, ↓v9, ↓v10, ↓v11, ↓v12, ↓v13, ↓v14, ↓v15, ↓v16, ↓v17, ↓t0, ↓t1, ↓t2, ↓t3, ↓t4, ↓t5, ↓t6, ↓t7, ↓t8, ↓setAll0, ↓setAll1, List.set_cons_zero, List.set_cons_succ, decide_eq_true_eq, Bool.not_eq_true', decide_eq_false_iff_not])
      refine ⟨rfl, (g_ixDI e2).mpr ((ix_map e4).mpr ?_)⟩
      obtain ⟨hl1, hl2⟩ := leave_ok hs ht
      refine ⟨rfl, w_ladd (x := ⟨t.l - s.b.lag, 1⟩) hl2 hf ?_⟩
      try (simp only [↓w_c, ↓w_e2, ↓we1', ↓p_v, ↓pr0, ↓pr1, ↓pr2, ↓pr3, ↓prA, ↓prB, ↓poL, ↓poD, ↓wB', ↓wt_N, ↓wt_An, ↓wt_Or, ↓wt_Ye, ↓w_Bo, ↓w_An, ↓w_Or, ↓w_If, ↓ws_If, ↓wa_Nil, ↓wa_Cons, ↓wTup', ↓wLst', ↓wLstM', ↓w_Dct, ↓w_DctM, ↓w_B, ↓w_Call, ↓wMt', ↓pl_nil, ↓pl_cons, ↓wc_P, ↓wc_M, ↓wSl', ↓wo_No, ↓woS', ↓wRlv, ↓wRlm, ↓ws_Nil, ↓ws_Cons, ↓then_nx, ↓then_rt, ↓ws_Asg, ↓wg_Nm, ↓wg_Tp, ↓wgs_Nil, ↓wgs_Cons, ↓wgSb', ↓ws_Par, ↓aug0, ↓aug1, ↓aug2, ↓aug3, ↓aug4, ↓aug5, ↓aug6, ↓aug7, ↓aug8, ↓aug9, ↓aug10, ↓aug11, ↓aug12, ↓aug13, ↓aug14, ↓aug15, ↓aug16, ↓aug17, ↓wAugS', ↓ws_Ret, ↓ws_RetT, ↓ws_Drop, ↓ws_For, ↓wSq', ↓wRg', ↓rg1, ↓rg2, ↓rg3, ↓rl1, ↓rl2, ↓rl3, ↓wEn', ↓enV, ↓wZp', ↓zpVV, ↓zpVB, ↓g_add, ↓g_addL, ↓g_addT, ↓g_iadd, ↓g_sub, ↓g_mul, ↓g_mulL, ↓g_fdiv, ↓g_mod, ↓g_pow, ↓g_lt, ↓g_le, ↓g_gt, ↓g_ge, ↓g_eqI, ↓g_neI, ↓g_is, ↓g_isnt, ↓g_ixT, ↓g_ixL, ↓g_ixD, ↓gl_abs, ↓gl_max, ↓gl_min, ↓gl_int, ↓gl_intB, ↓gl_gcd, ↓gl_lenL, ↓gl_lenT, ↓gl_tupL, ↓gl_tupT, ↓gl_lstL, ↓gl_lstT, ↓gl_rep, ↓gl_sortD, ↓gl_sortL, ↓ngI, ↓slL, ↓slT, ↓slS, ↓bo, ↓io, ↓av0, ↓av1, ↓itL, ↓itT, ↓it0, ↓it1, ↓it2, ↓itB, ↓rtB, ↓rt_v, ↓g_ninI, ↓g_inI, ↓w_Lc, ↓w_LcM, ↓turn_nx, wipeL_cons, wipeL_nil, ↓sw0, ↓sw1, ↓sw2, ↓gix2, ↓app0, ↓app1, ↓app2, ↓appB, ↓isL0, ↓isL1, ↓isL2, ↓isLB, ↓isLv, ↓at_head, ↓v0, ↓v1, ↓v2, ↓v3, ↓v4, ↓v5, ↓v6, ↓v7, ↓v8, ↓v9, ↓v10, ↓v11, ↓v12, ↓v13, ↓v14, ↓v15, ↓v16, ↓v17, ↓t0, ↓t1, ↓t2, ↓t3, ↓t4, ↓t5, ↓t6, ↓t7, ↓t8, ↓setAll0, ↓setAll1, List.set_cons_zero, List.set_cons_succ, decide_eq_true_eq, Bool.not_eq_true', decide_eq_false_iff_not])
      refine ⟨by rw [List.length_map]; omega, ?_⟩
      have := tail (L0 ++ [Fr.sum ⟨t.l - s.b.lag, 1⟩ f]) (some (.v (.int i))) (by simp; omega) ?_ hq
      · rw [List.map_append] at this
        exact this
      · intro g hg
        rcases List.mem_append.mp hg with hg | hg
        · exact ho0 g hg
        · have e : g = Fr.sum ⟨t.l - s.b.lag, 1⟩ f := by simpa using hg
          rw [e]
          exact sum_ok2 hl1 hf hf3
  try (simp only [↓w_c, ↓w_e2, ↓we1', ↓p_v, ↓pr0, ↓pr1, ↓pr2, ↓pr3, ↓prA, ↓prB, ↓poL, ↓poD, ↓wB', ↓wt_N, ↓wt_An, ↓wt_Or, ↓wt_Ye, ↓w_Bo, ↓w_An, ↓w_Or, ↓w_If, ↓ws_If, ↓wa_Nil, ↓wa_Cons, ↓wTup', ↓wLst', ↓wLstM', ↓w_Dct, ↓w_DctM, ↓w_B, ↓w_Call, ↓wMt', ↓pl_nil, ↓pl_cons, ↓wc_P, ↓wc_M, ↓wSl', ↓wo_No, ↓woS', ↓wRlv, ↓wRlm, ↓ws_Nil, ↓ws_Cons, ↓then_nx, ↓then_rt, ↓ws_Asg, ↓wg_Nm, ↓wg_Tp, ↓wgs_Nil, ↓wgs_Cons, ↓wgSb', ↓ws_Par, ↓aug0, ↓aug1, ↓aug2, ↓aug3, ↓aug4, ↓aug5, ↓aug6, ↓aug7, ↓aug8, ↓aug9, ↓aug10, ↓aug11, ↓aug12, ↓aug13, ↓aug14, ↓aug15, ↓aug16, ↓aug17, ↓wAugS', ↓ws_Ret, ↓ws_RetT, ↓ws_Drop, ↓ws_For, ↓wSq', ↓wRg', ↓rg1, ↓rg2, ↓rg3, ↓rl1, ↓rl2, ↓rl3, ↓wEn', ↓enV, ↓wZp', ↓zpVV, ↓zpVB, ↓g_add, ↓g_addL, ↓g_addT, ↓g_iadd, ↓g_sub, ↓g_mul, ↓g_mulL, ↓g_fdiv, ↓g_mod, ↓g_pow, ↓g_lt, ↓g_le, ↓g_gt, ↓g_ge, ↓g_eqI, ↓g_neI, ↓g_is, ↓g_isnt, ↓g_ixT, ↓g_ixL, ↓g_ixD, ↓gl_abs, ↓gl_max, ↓gl_min, ↓gl_int, ↓gl_intB, ↓gl_gcd, ↓gl_lenL, ↓gl_lenT, ↓gl_tupL, ↓gl_tupT, ↓gl_lstL, ↓gl_lstT, ↓gl_rep, ↓gl_sortD, ↓gl_sortL, ↓ngI, ↓slL, ↓slT, ↓slS, ↓bo, ↓io, ↓av0, ↓av1, ↓itL, ↓itT, ↓it0, ↓it1, ↓it2, ↓itB, ↓rtB, ↓rt_v, ↓g_ninI, ↓g_inI, ↓w_Lc, ↓w_LcM, ↓turn_nx, wipeL_cons, wipeL_nil, ↓sw0, ↓sw1, ↓sw2, ↓gix2, ↓app0, ↓app1, ↓app2, ↓appB, ↓isL0, ↓isL1, ↓isL2, ↓isLB, ↓isLv, ↓at_head, ↓v0, ↓v1, ↓v2, ↓v3, ↓v4, ↓v5, ↓v6, ↓v7, ↓v8, ↓v9, ↓v10, ↓v11, ↓v12, ↓v13, ↓v14, ↓v15, ↓v16, ↓v17, ↓t0, ↓t1, ↓t2, ↓t3, ↓t4, ↓t5, ↓t6, ↓t7, ↓t8, ↓setAll0, ↓setAll1, List.set_cons_zero, List.set_cons_succ, decide_eq_true_eq, Bool.not_eq_true', decide_eq_false_iff_not, ↓nx0, ↓nx1, ↓nx3, ↓g_inDI])
  unfold fallL at q
  cases hk : atK (c : Int) n.falls with
  | none =>
    rw [hk] at q
    rw [if_neg (by simp)]
    refine ⟨rfl, ?_⟩
    exact mid [] (by simp) (by simp) q
  | some f =>
    rw [hk] at q
    rw [if_pos (by rfl)]
    refine (g_ixDI hk).mpr ⟨rfl, ?_⟩
    refine mid [f] (by simp) ?_ q
    intro g hg
    have e : g = f := by simpa using hg
    rw [e]
    exact (hn.falls.2 _ (atK_mem hk)).2
end K61

namespace K61
open PySem PySem.Spec PyProof.Rows L2 Dn
theorem Fr.lt_irr (a : Fr) : a.lt a = false := by
  unfold Fr.lt
  rw [decide_eq_false_iff_not]
  omega
theorem w_least {S : Sto} {L : List Fr} {Q : RV → Sto → Prop} (hL : L.length ≤ 2) (h0 : L ≠ []) (ho : ∀ f ∈ L, f.Ok) (q : Q (.v (leastP L)) (S ++ [.lst (L.map Fr.v)])) : WC c_least_of [.ref S.length] (S ++ [.lst (L.map Fr.v)]) Q := by
  obtain ⟨a, M, rfl⟩ : ∃ a M, L = a :: M := by
    cases L with
    | nil => exact absurd rfl h0
    | cons a M => exact ⟨a, M, rfl⟩
  refine wc_d rfl ?_
  unfold m_least_of d_least_of_1 d_least_of_2
  rw [List.map_cons]
  rw [List.map_cons] at q
  show W _ [some (.ref S.length), none, none] _ _
  simp only [↓w_c, ↓w_e2, ↓we1', ↓p_v, ↓pr0, ↓pr1, ↓pr2, ↓pr3, ↓prA, ↓prB, ↓poL, ↓poD, ↓wB', ↓wt_N, ↓wt_An, ↓wt_Or, ↓wt_Ye, ↓w_Bo, ↓w_An, ↓w_Or, ↓w_If, ↓ws_If, ↓wa_Nil, ↓wa_Cons, ↓wTup', ↓wLst', ↓wLstM', ↓w_Dct, ↓w_DctM, ↓w_B, ↓w_Call, ↓wMt', ↓pl_nil, ↓pl_cons, ↓wc_P, ↓wc_M, ↓wSl', ↓wo_No, ↓woS', ↓wRlv, ↓wRlm, ↓ws_Nil, ↓ws_Cons, ↓then_nx, ↓then_rt, ↓ws_Asg, ↓wg_Nm, ↓wg_Tp, ↓wgs_Nil, ↓wgs_Cons, ↓wgSb', ↓ws_Par, ↓aug0, ↓aug1, ↓aug2, ↓aug3, ↓aug4, ↓aug5, ↓aug6, ↓aug7, ↓aug8, ↓aug9, ↓aug10, ↓aug11, ↓aug12, ↓aug13, ↓aug14, ↓aug15, ↓aug16, ↓aug17, ↓wAugS', ↓ws_Ret, ↓ws_RetT, ↓ws_Drop, ↓ws_For, ↓wSq', ↓wRg', ↓rg1, ↓rg2, ↓rg3, ↓rl1, ↓rl2, ↓rl3, ↓wEn', ↓enV, ↓wZp', ↓zpVV, ↓zpVB, ↓g_add, ↓g_addL, ↓g_addT, ↓g_iadd, ↓g_sub, ↓g_mul, ↓g_mulL, ↓g_fdiv, ↓g_mod, ↓g_pow, ↓g_lt, ↓g_le, ↓g_gt, ↓g_ge, ↓g_eqI, ↓g_neI, ↓g_is, ↓g_isnt, ↓g_ixT, ↓g_ixL, ↓g_ixD, ↓gl_abs, ↓gl_max, ↓gl_min, ↓gl_int, ↓gl_intB, ↓gl_gcd, ↓gl_lenL, ↓gl_lenT, ↓gl_tupL, ↓gl_tupT, ↓gl_lstL, ↓gl_lstT, ↓gl_rep, ↓gl_sortD, ↓gl_sortL, ↓ngI, ↓slL, ↓slT, ↓slS, ↓bo, ↓io, ↓av0, ↓av1, ↓itL, ↓itT, ↓it0, ↓it1, ↓it2, ↓itB, ↓rtB, ↓rt_v, ↓g_ninI, ↓g_inI, ↓w_Lc, ↓w_LcM, ↓turn_nx, wipeL_cons, wipeL_nil, ↓sw0, ↓sw1, ↓sw2, ↓gix2, ↓app0, ↓app1, ↓app2, ↓appB, ↓isL0, ↓isL1, ↓isL2, ↓isLB, ↓isLv, ↓at_head, ↓v0, ↓v1, ↓v2, ↓v3, ↓v4, ↓v5, ↓v6, ↓v7, ↓v8, ↓v9, ↓v10, ↓v11, ↓v12, ↓v13, ↓v14, ↓v15, ↓v16, ↓v17, ↓t0, ↓t1, ↓t2, ↓t3, ↓t4, ↓t5, ↓t6, ↓t7, ↓t8, ↓setAll0, ↓setAll1, List.set_cons_zero, List.set_cons_succ, decide_eq_true_eq, Bool.not_eq_true', decide_eq_false_iff_not]
  refine wf_inv (fun i r S' => S' = S ++ [.lst (a.v :: M.map Fr.v)] ∧ ∃ (f : Fr) (y : Option RV), f.Ok ∧ r = [some (.ref S.length), some (.v f.v), y] ∧ (i ≤ 1 → f = a) ∧ (i = 2 → ∀ b N, M = b :: N → f = if b.lt a = true then b else a)) ⟨rfl, a, none, ho a (by simp), rfl, fun _ => rfl, fun h => absurd h (by decide)⟩ ?_ ?_
  · rintro i x r S' hx ⟨rfl, f, y, hf, rfl, h1, h2⟩
    refine ⟨okB, ?_⟩
    rw [← List.map_cons (f := Fr.v), List.getElem?_map] at hx
    obtain ⟨g, hg, rfl⟩ := Option.map_eq_some_iff.mp hx
    have hgo := ho g (List.mem_of_getElem? hg)
    have hi := (List.getElem?_eq_some_iff.mp hg).1
    have hi1 : i ≤ 1 := by omega
    have e := h1 hi1
    subst e
    unfold b_least_of_1
    simp only [↓w_c, ↓w_e2, ↓we1', ↓p_v, ↓pr0, ↓pr1, ↓pr2, ↓pr3, ↓prA, ↓prB, ↓poL, ↓poD, ↓wB', ↓wt_N, ↓wt_An, ↓wt_Or, ↓wt_Ye, ↓w_Bo, ↓w_An, ↓w_Or, ↓w_If, ↓ws_If, ↓wa_Nil, ↓wa_Cons, ↓wTup', ↓wLst', ↓wLstM', ↓w_Dct, ↓w_DctM, ↓w_B, ↓w_Call, ↓wMt', ↓pl_nil, ↓pl_cons, ↓wc_P, ↓wc_M, ↓wSl', ↓wo_No, ↓woS', ↓wRlv, ↓wRlm, ↓ws_Nil, ↓ws_Cons, ↓then_nx, ↓then_rt, ↓ws_Asg, ↓wg_Nm, ↓wg_Tp, ↓wgs_Nil, ↓wgs_Cons, ↓wgSb', ↓ws_Par, ↓aug0, ↓aug1, ↓aug2, ↓aug3, ↓aug4, ↓aug5, ↓aug6, ↓aug7, ↓aug8, ↓aug9, ↓aug10, ↓aug11, ↓aug12, ↓aug13, ↓aug14, ↓aug15, ↓aug16, ↓aug17, ↓wAugS', ↓ws_Ret, ↓ws_RetT, ↓ws_Drop, ↓ws_For, ↓wSq', ↓wRg', ↓rg1, ↓rg2, ↓rg3, ↓rl1, ↓rl2, ↓rl3, ↓wEn', ↓enV, ↓wZp', ↓zpVV, ↓zpVB, ↓g_add, ↓g_addL, ↓g_addT, ↓g_iadd, ↓g_sub, ↓g_mul, ↓g_mulL, ↓g_fdiv, ↓g_mod, ↓g_pow, ↓g_lt, ↓g_le, ↓g_gt, ↓g_ge, ↓g_eqI, ↓g_neI, ↓g_is, ↓g_isnt, ↓g_ixT, ↓g_ixL, ↓g_ixD, ↓gl_abs, ↓gl_max, ↓gl_min, ↓gl_int, ↓gl_intB, ↓gl_gcd, ↓gl_lenL, ↓gl_lenT, ↓gl_tupL, ↓gl_tupT, ↓gl_lstL, ↓gl_lstT, ↓gl_rep, ↓gl_sortD, ↓gl_sortL, ↓ngI, ↓slL, ↓slT, ↓slS, ↓bo, ↓io, ↓av0, ↓av1, ↓itL, ↓itT, ↓it0, ↓it1, ↓it2, ↓itB, ↓rtB, ↓rt_v, ↓g_ninI, ↓g_inI, ↓w_Lc, ↓w_LcM, ↓turn_nx, wipeL_cons, wipeL_nil, ↓sw0, ↓sw1, ↓sw2, ↓gix2, ↓app0, ↓app1, ↓app2, ↓appB, ↓isL0, ↓isL1, ↓isL2, ↓isLB, ↓isLv, ↓at_head, ↓v0, ↓v1, ↓v2, ↓v3, ↓v4, ↓v5, ↓v6, ↓v7, ↓v8, ↓v9, ↓v10, ↓v11, ↓v12, ↓v13, ↓v14, ↓v15, ↓v16, ↓v17, ↓t0, ↓t1, ↓t2, ↓t3, ↓t4, ↓t5, ↓t6, ↓t7, ↓t8, ↓setAll0, ↓setAll1, List.set_cons_zero, List.set_cons_succ, decide_eq_true_eq, Bool.not_eq_true', decide_eq_false_iff_not]
    refine ⟨rfl, w_compared hgo hf fun z hz => ?_⟩
    try (simp only [↓w_c, ↓w_e2, ↓we1', ↓p_v, ↓pr0, ↓pr1, ↓pr2, ↓pr3, ↓prA, ↓prB, ↓poL, ↓poD, ↓wB', ↓wt_N, ↓wt_An, ↓wt_Or, ↓wt_Ye, ↓w_Bo, ↓w_An, ↓w_Or, ↓w_If, ↓ws_If, ↓wa_Nil, ↓wa_Cons, ↓wTup', ↓wLst', ↓wLstM', ↓w_Dct, ↓w_DctM, ↓w_B, ↓w_Call, ↓wMt', ↓pl_nil, ↓pl_cons, ↓wc_P, ↓wc_M, ↓wSl', ↓wo_No, ↓woS', ↓wRlv, ↓wRlm, ↓ws_Nil, ↓ws_Cons, ↓then_nx, ↓then_rt, ↓ws_Asg, ↓wg_Nm, ↓wg_Tp, ↓wgs_Nil, ↓wgs_Cons, ↓wgSb', ↓ws_Par, ↓aug0, ↓aug1, ↓aug2, ↓aug3, ↓aug4, ↓aug5, ↓aug6, ↓aug7, ↓aug8, ↓aug9, ↓aug10, ↓aug11, ↓aug12, ↓aug13, ↓aug14, ↓aug15, ↓aug16, ↓aug17, ↓wAugS', ↓ws_Ret, ↓ws_RetT, ↓ws_Drop, ↓ws_For, ↓wSq', ↓wRg', ↓rg1, ↓rg2, ↓rg3, ↓rl1, ↓rl2, ↓rl3, ↓wEn', ↓enV, ↓wZp', ↓zpVV, ↓zpVB, ↓g_add, ↓g_addL, ↓g_addT, ↓g_iadd, ↓g_sub, ↓g_mul, ↓g_mulL, ↓g_fdiv, ↓g_mod, ↓g_pow, ↓g_lt, ↓g_le, ↓g_gt, ↓g_ge, ↓g_eqI, ↓g_neI, ↓g_is, ↓g_isnt, ↓g_ixT, ↓g_ixL, ↓g_ixD, ↓gl_abs, ↓gl_max, ↓gl_min, ↓gl_int, ↓gl_intB, ↓gl_gcd, ↓gl_lenL, ↓gl_lenT, ↓gl_tupL, ↓gl_tupT, ↓gl_lstL, ↓gl_lstT, ↓gl_rep, ↓gl_sortD, ↓gl_sortL, ↓ngI, ↓slL, ↓slT, ↓slS, ↓bo, ↓io, ↓av0, ↓av1, ↓itL, ↓itT, ↓it0, ↓it1, ↓it2, ↓itB, ↓rtB, ↓rt_v, ↓g_ninI, ↓g_inI, ↓w_Lc, ↓w_LcM, ↓turn_nx, wipeL_cons, wipeL_nil, ↓sw0, ↓sw1, ↓sw2, ↓gix2, ↓app0, ↓app1, ↓app2, ↓appB, ↓isL0, ↓isL1, ↓isL2, ↓isLB, ↓isLv, ↓at_head, ↓v0, ↓v1, ↓v2, ↓v3, ↓v4, ↓v5, ↓v6, ↓v7, ↓v8, ↓v9, ↓v10, ↓v11, ↓v12, ↓v13, ↓v14, ↓v15, ↓v16, ↓v17, ↓t0, ↓t1, ↓t2, ↓t3, ↓t4, ↓t5, ↓t6, ↓t7, ↓t8, ↓setAll0, ↓setAll1, List.set_cons_zero, List.set_cons_succ, decide_eq_true_eq, Bool.not_eq_true', decide_eq_false_iff_not])
    have hz2 : ∀ {A B : Prop}, (g.lt f = true → A) → (g.lt f = false → B) → if z < 0 then A else B := by
      intro A B ha hb
      by_cases hlt : g.lt f = true
      · rw [if_pos (hz.mpr hlt)]
        exact ha hlt
      · rw [if_neg fun h => hlt (hz.mp h)]
        exact hb (by simpa using hlt)
    cases i with
    | zero =>
      have e : g = f := by simpa using hg.symm
      subst e
      refine hz2 (fun h => ?_) (fun h => ⟨trivial, g, _, hf, rfl, fun _ => rfl, fun h => absurd h (by decide)⟩)
      rw [Fr.lt_irr] at h
      cases h
    | succ j =>
      have e : j = 0 := by omega
      subst e
      have hM : ∀ b N, M = b :: N → b = g := by
        intro b N h
        subst h
        simpa using hg
      refine hz2 (fun h => ⟨trivial, g, _, hgo, rfl, fun h => absurd h (by decide), fun _ b N hb => ?_⟩) (fun h => ⟨trivial, f, _, hf, rfl, fun h => absurd h (by decide), fun _ b N hb => ?_⟩)
      · rw [hM b N hb, if_pos h]
      · rw [hM b N hb, if_neg (by rw [h]; exact Bool.false_ne_true)]
  · rintro r S' ⟨rfl, f, y, hf, rfl, h1, h2⟩
    refine ⟨okB, ?_⟩
    try (simp only [↓w_c, ↓w_e2, ↓we1', ↓p_v, ↓pr0, ↓pr1, ↓pr2, ↓pr3, ↓prA, ↓prB, ↓poL, ↓poD, ↓wB', ↓wt_N, ↓wt_An, ↓wt_Or, ↓wt_Ye, ↓w_Bo, ↓w_An, ↓w_Or, ↓w_If, ↓ws_If, ↓wa_Nil, ↓wa_Cons, ↓wTup', ↓wLst', ↓wLstM', ↓w_Dct, ↓w_DctM, ↓w_B, ↓w_Call, ↓wMt', ↓pl_nil, ↓pl_cons, ↓wc_P, ↓wc_M, ↓wSl', ↓wo_No, ↓woS', ↓wRlv, ↓wRlm, ↓ws_Nil, ↓ws_Cons, ↓then_nx, ↓then_rt, ↓ws_Asg, ↓wg_Nm, ↓wg_Tp, ↓wgs_Nil, ↓wgs_Cons, ↓wgSb', ↓ws_Par, ↓aug0, ↓aug1, ↓aug2, ↓aug3, ↓aug4, ↓aug5, ↓aug6, ↓aug7, ↓aug8, ↓aug9, ↓aug10, ↓aug11, ↓aug12, ↓aug13, ↓aug14, ↓aug15, ↓aug16, ↓aug17, ↓wAugS', ↓ws_Ret, ↓ws_RetT, ↓ws_Drop, ↓ws_For, ↓wSq', ↓wRg', ↓rg1, ↓rg2, ↓rg3, ↓rl1, ↓rl2, ↓rl3, ↓wEn', ↓enV, ↓wZp', ↓zpVV, ↓zpVB, ↓g_add, ↓g_addL, ↓g_addT, ↓g_iadd, ↓g_sub, ↓g_mul, ↓g_mulL, ↓g_fdiv, ↓g_mod, ↓g_pow, ↓g_lt, ↓g_le, ↓g_gt, ↓g_ge, ↓g_eqI, ↓g_neI, ↓g_is, ↓g_isnt, ↓g_ixT, ↓g_ixL, ↓g_ixD, ↓gl_abs, ↓gl_max, ↓gl_min, ↓gl_int, ↓gl_intB, ↓gl_gcd, ↓gl_lenL, ↓gl_lenT, ↓gl_tupL, ↓gl_tupT, ↓gl_lstL, ↓gl_lstT, ↓gl_rep, ↓gl_sortD, ↓gl_sortL, ↓ngI, ↓slL, ↓slT, ↓slS, ↓bo, ↓io, ↓av0, ↓av1, ↓itL, ↓itT, ↓it0, ↓it1, ↓it2, ↓itB, ↓rtB, ↓rt_v, ↓g_ninI, ↓g_inI, ↓w_Lc, ↓w_LcM, ↓turn_nx, wipeL_cons, wipeL_nil, ↓sw0, ↓sw1, ↓sw2, ↓gix2, ↓app0, ↓app1, ↓app2, ↓appB, ↓isL0, ↓isL1, ↓isL2, ↓isLB, ↓isLv, ↓at_head, ↓v0, ↓v1, ↓v2, ↓v3, ↓v4, ↓v5, ↓v6, ↓v7, ↓v8, ↓v9, ↓v10, ↓v11, ↓v12, ↓v13, ↓v14, ↓v15, ↓v16, ↓v17, ↓t0, ↓t1, ↓t2, ↓t3, ↓t4, ↓t5, ↓t6, ↓t7, ↓t8, ↓setAll0, ↓setAll1, List.set_cons_zero, List.set_cons_succ, decide_eq_true_eq, Bool.not_eq_true', decide_eq_false_iff_not])
    refine end0 ?_
    cases M with
    | nil =>
      rw [h1 (by simp)]
      exact q
    | cons b N =>
      cases N with
      | nil =>
        rw [h2 (by simp) b [] rfl]
        have e : leastP [a, b] = (if b.lt a = true then b else a).v := by
          show (if b.lt a = true then b.v else a.v) = _
          split <;> rfl
        rw [← e]
        exact q
      | cons _ _ => simp at hL
theorem w_fallof {S : Sto} {s : Show} {n : Night} {c : Nat} {Q : RV → Sto → Prop} (hs : s.Ok) (hn : n.Ok s.sc.length s.pads.length) (hc : c < s.pads.length) (q : Q (.v (leastP (fallL s n c))) S) : WC c_fall_of [.v s.v, .v n.v, .v (.int c)] S Q := by
  refine wc_d rfl ?_
  unfold m_fall_of d_fall_of_1 Night.v
  show W _ [some (.v s.v), some (.v (.tup _)), some (.v (.int c)), none, none, none, none, none, none] _ _
  have tail : ∀ (L : List Fr) (a0 a1 a2 a3 y : Option RV), L.length ≤ 2 → (∀ f ∈ L, f.Ok) → Q (.v (leastP L)) S → W d_fall_of_3 [some (.v s.v), a0, some (.v (.int c)), a1, a2, a3, some (.v (dI PV.int n.lost)), some (.ref S.length), y] (S ++ [.lst (L.map Fr.v)]) (RT S.length Q) := by
    intro L a0 a1 a2 a3 y hL ho hq
    unfold d_fall_of_3
    try (simp only [↓w_c, ↓w_e2, ↓we1', ↓p_v, ↓pr0, ↓pr1, ↓pr2, ↓pr3, ↓prA, ↓prB, ↓poL, ↓poD, ↓wB', ↓wt_N, ↓wt_An, ↓wt_Or, ↓wt_Ye, ↓w_Bo, ↓w_An, ↓w_Or, ↓w_If, ↓ws_If, ↓wa_Nil, ↓wa_Cons, ↓wTup', ↓wLst', ↓wLstM', ↓w_Dct, ↓w_DctM, ↓w_B, ↓w_Call, ↓wMt', ↓pl_nil, ↓pl_cons, ↓wc_P, ↓wc_M, ↓wSl', ↓wo_No, ↓woS', ↓wRlv, ↓wRlm, ↓ws_Nil, ↓ws_Cons, ↓then_nx, ↓then_rt, ↓ws_Asg, ↓wg_Nm, ↓wg_Tp, ↓wgs_Nil, ↓wgs_Cons, ↓wgSb', ↓ws_Par, ↓aug0, ↓aug1, ↓aug2, ↓aug3, ↓aug4, ↓aug5, ↓aug6, ↓aug7, ↓aug8, ↓aug9, ↓aug10, ↓aug11, ↓aug12, ↓aug13, ↓aug14, ↓aug15, ↓aug16, ↓aug17, ↓wAugS', ↓ws_Ret, ↓ws_RetT, ↓ws_Drop, ↓ws_For, ↓wSq', ↓wRg', ↓rg1, ↓rg2, ↓rg3, ↓rl1, ↓rl2, ↓rl3, ↓wEn', ↓enV, ↓wZp', ↓zpVV, ↓zpVB, ↓g_add, ↓g_addL, ↓g_addT, ↓g_iadd, ↓g_sub, ↓g_mul, ↓g_mulL, ↓g_fdiv, ↓g_mod, ↓g_pow, ↓g_lt, ↓g_le, ↓g_gt, ↓g_ge, ↓g_eqI, ↓g_neI, ↓g_is, ↓g_isnt, ↓g_ixT, ↓g_ixL, ↓g_ixD, ↓gl_abs, ↓gl_max, ↓gl_min, ↓gl_int, ↓gl_intB, ↓gl_gcd, ↓gl_lenL, ↓gl_lenT, ↓gl_tupL, ↓gl_tupT, ↓gl_lstL, ↓gl_lstT, ↓gl_rep, ↓gl_sortD, ↓gl_sortL, ↓ngI, ↓slL, ↓slT, ↓slS, ↓bo, ↓io, ↓av0, ↓av1, ↓itL, ↓itT, ↓it0, ↓it1, ↓it2, ↓itB, ↓rtB, ↓rt_v, ↓g_ninI, ↓g_inI, ↓w_Lc, ↓w_LcM, ↓turn_nx, wipeL_cons, wipeL_nil, ↓sw0, ↓sw1, ↓sw2, ↓gix2, ↓app0, ↓app1, ↓app2, ↓appB, ↓isL0, ↓isL1, ↓isL2, ↓isLB, ↓isLv, ↓at_head, ↓v0, ↓v1, ↓v2, ↓v3, ↓v4, ↓v5, ↓v6, ↓v7, ↓v8, ↓v9, ↓v10, ↓v11, ↓v12, ↓v13, ↓v14, ↓v15, ↓v16, ↓v17, ↓t0, ↓t1, ↓t2, ↓t3, ↓t4, ↓t5, ↓t6, ↓t7, ↓t8, ↓setAll0, ↓setAll1, List.set_cons_zero, List.set_cons_succ, decide_eq_true_eq, Bool.not_eq_true', decide_eq_false_iff_not])
    refine ⟨rfl, ?_⟩
    rw [neNil (fr_data L)]
    cases hLn : L with
    | nil =>
      subst hLn
      try (simp only [↓w_c, ↓w_e2, ↓we1', ↓p_v, ↓pr0, ↓pr1, ↓pr2, ↓pr3, ↓prA, ↓prB, ↓poL, ↓poD, ↓wB', ↓wt_N, ↓wt_An, ↓wt_Or, ↓wt_Ye, ↓w_Bo, ↓w_An, ↓w_Or, ↓w_If, ↓ws_If, ↓wa_Nil, ↓wa_Cons, ↓wTup', ↓wLst', ↓wLstM', ↓w_Dct, ↓w_DctM, ↓w_B, ↓w_Call, ↓wMt', ↓pl_nil, ↓pl_cons, ↓wc_P, ↓wc_M, ↓wSl', ↓wo_No, ↓woS', ↓wRlv, ↓wRlm, ↓ws_Nil, ↓ws_Cons, ↓then_nx, ↓then_rt, ↓ws_Asg, ↓wg_Nm, ↓wg_Tp, ↓wgs_Nil, ↓wgs_Cons, ↓wgSb', ↓ws_Par, ↓aug0, ↓aug1, ↓aug2, ↓aug3, ↓aug4, ↓aug5, ↓aug6, ↓aug7, ↓aug8, ↓aug9, ↓aug10, ↓aug11, ↓aug12, ↓aug13, ↓aug14, ↓aug15, ↓aug16, ↓aug17, ↓wAugS', ↓ws_Ret, ↓ws_RetT, ↓ws_Drop, ↓ws_For, ↓wSq', ↓wRg', ↓rg1, ↓rg2, ↓rg3, ↓rl1, ↓rl2, ↓rl3, ↓wEn', ↓enV, ↓wZp', ↓zpVV, ↓zpVB, ↓g_add, ↓g_addL, ↓g_addT, ↓g_iadd, ↓g_sub, ↓g_mul, ↓g_mulL, ↓g_fdiv, ↓g_mod, ↓g_pow, ↓g_lt, ↓g_le, ↓g_gt, ↓g_ge, ↓g_eqI, ↓g_neI, ↓g_is, ↓g_isnt, ↓g_ixT, ↓g_ixL, ↓g_ixD, ↓gl_abs, ↓gl_max, ↓gl_min, ↓gl_int, ↓gl_intB, ↓gl_gcd, ↓gl_lenL, ↓gl_lenT, ↓gl_tupL, ↓gl_tupT, ↓gl_lstL, ↓gl_lstT, ↓gl_rep, ↓gl_sortD, ↓gl_sortL, ↓ngI, ↓slL, ↓slT, ↓slS, ↓bo, ↓io, ↓av0, ↓av1, ↓itL, ↓itT, ↓it0, ↓it1, ↓it2, ↓itB, ↓rtB, ↓rt_v, ↓g_ninI, ↓g_inI, ↓w_Lc, ↓w_LcM, ↓turn_nx, wipeL_cons, wipeL_nil, ↓sw0, ↓sw1, ↓sw2, ↓gix2, ↓app0, ↓app1, ↓app2, ↓appB, ↓isL0, ↓isL1, ↓isL2, ↓isLB, ↓isLv, ↓at_head, ↓v0, ↓v1, ↓v2, ↓v3, ↓v4, ↓v5, ↓v6, ↓v7, ↓v8, ↓v9, ↓v10, ↓v11, ↓v12, ↓v13, ↓v14, ↓v15, ↓v16, ↓v17, ↓t0, ↓t1, ↓t2, ↓t3, ↓t4, ↓t5, ↓t6, ↓t7, ↓t8, ↓setAll0, ↓setAll1, List.set_cons_zero, List.set_cons_succ, decide_eq_true_eq, Bool.not_eq_true', decide_eq_false_iff_not])
      rw [if_neg (by simp)]
      exact endB hq
    | cons a M =>
      rw [← hLn]
      have hne : L ≠ [] := by
        rw [hLn]
        simp
      have e : (L.map Fr.v).isEmpty = false := by
        rw [hLn]
        rfl
      rw [e]
      try (simp only [↓w_c, ↓w_e2, ↓we1', ↓p_v, ↓pr0, ↓pr1, ↓pr2, ↓pr3, ↓prA, ↓prB, ↓poL, ↓poD, ↓wB', ↓wt_N, ↓wt_An, ↓wt_Or, ↓wt_Ye, ↓w_Bo, ↓w_An, ↓w_Or, ↓w_If, ↓ws_If, ↓wa_Nil, ↓wa_Cons, ↓wTup', ↓wLst', ↓wLstM', ↓w_Dct, ↓w_DctM, ↓w_B, ↓w_Call, ↓wMt', ↓pl_nil, ↓pl_cons, ↓wc_P, ↓wc_M, ↓wSl', ↓wo_No, ↓woS', ↓wRlv, ↓wRlm, ↓ws_Nil, ↓ws_Cons, ↓then_nx, ↓then_rt, ↓ws_Asg, ↓wg_Nm, ↓wg_Tp, ↓wgs_Nil, ↓wgs_Cons, ↓wgSb', ↓ws_Par, ↓aug0, ↓aug1, ↓aug2, ↓aug3, ↓aug4, ↓aug5, ↓aug6, ↓aug7, ↓aug8, ↓aug9, ↓aug10, ↓aug11, ↓aug12, ↓aug13, ↓aug14, ↓aug15, ↓aug16, ↓aug17, ↓wAugS', ↓ws_Ret, ↓ws_RetT, ↓ws_Drop, ↓ws_For, ↓wSq', ↓wRg', ↓rg1, ↓rg2, ↓rg3, ↓rl1, ↓rl2, ↓rl3, ↓wEn', ↓enV, ↓wZp', ↓zpVV, ↓zpVB, ↓g_add, ↓g_addL, ↓g_addT, ↓g_iadd, ↓g_sub, ↓g_mul, ↓g_mulL, ↓g_fdiv, ↓g_mod, ↓g_pow, ↓g_lt, ↓g_le, ↓g_gt, ↓g_ge, ↓g_eqI, ↓g_neI, ↓g_is, ↓g_isnt, ↓g_ixT, ↓g_ixL, ↓g_ixD, ↓gl_abs, ↓gl_max, ↓gl_min, ↓gl_int, ↓gl_intB, ↓gl_gcd, ↓gl_lenL, ↓gl_lenT, ↓gl_tupL, ↓gl_tupT, ↓gl_lstL, ↓gl_lstT, ↓gl_rep, ↓gl_sortD, ↓gl_sortL, ↓ngI, ↓slL, ↓slT, ↓slS, ↓bo, ↓io, ↓av0, ↓av1, ↓itL, ↓itT, ↓it0, ↓it1, ↓it2, ↓itB, ↓rtB, ↓rt_v, ↓g_ninI, ↓g_inI, ↓w_Lc, ↓w_LcM, ↓turn_nx, wipeL_cons, wipeL_nil, ↓sw0, ↓sw1, ↓sw2, ↓gix2, ↓app0, ↓app1, ↓app2, ↓appB, ↓isL0, ↓isL1, ↓isL2, ↓isLB, ↓isLv, ↓at_head, ↓v0, ↓v1, ↓v2, ↓v3, ↓v4, ↓v5, ↓v6, ↓v7, ↓v8, ↓v9, ↓v10, ↓v11, ↓v12, ↓v13, ↓v14, ↓v15, ↓v16, ↓v17, ↓t0, ↓t1, ↓t2, ↓t3, ↓t4, ↓t5, ↓t6, ↓t7, ↓t8, ↓setAll0, ↓setAll1, List.set_cons_zero, List.set_cons_succ, decide_eq_true_eq, Bool.not_eq_true', decide_eq_false_iff_not])
      rw [if_pos trivial]
      exact ⟨rfl, w_least hL hne ho (rt_v.mpr (endB hq))⟩
  have mid : ∀ (L0 : List Fr) (a0 : Option RV), L0.length ≤ 1 → (∀ f ∈ L0, f.Ok) → Q (.v (leastP (L0 ++ lostF s n c))) S → W d_fall_of_2 [some (.v s.v), a0, some (.v (.int c)), some (.v (dI Fr.v n.falls)), some (.v (dI frs n.errs)), some (.v (dI wds n.winds)), some (.v (dI PV.int n.lost)), some (.ref S.length), none] (S ++ [.lst (L0.map Fr.v)]) (RT S.length Q) := by
    intro L0 a0 hL0 ho0 hq
    unfold d_fall_of_2
    try (simp only [↓w_c, ↓w_e2, ↓we1', ↓p_v, ↓pr0, ↓pr1, ↓pr2, ↓pr3, ↓prA, ↓prB, ↓poL, ↓poD, ↓wB', ↓wt_N, ↓wt_An, ↓wt_Or, ↓wt_Ye, ↓w_Bo, ↓w_An, ↓w_Or, ↓w_If, ↓ws_If, ↓wa_Nil, ↓wa_Cons, ↓wTup', ↓wLst', ↓wLstM', ↓w_Dct, ↓w_DctM, ↓w_B, ↓w_Call, ↓wMt', ↓pl_nil, ↓pl_cons, ↓wc_P, ↓wc_M, ↓wSl', ↓wo_No, ↓woS', ↓wRlv, ↓wRlm, ↓ws_Nil, ↓ws_Cons, ↓then_nx, ↓then_rt, ↓ws_Asg, ↓wg_Nm, ↓wg_Tp, ↓wgs_Nil, ↓wgs_Cons, ↓wgSb', ↓ws_Par, ↓aug0, ↓aug1, ↓aug2, ↓aug3, ↓aug4, ↓aug5, ↓aug6, ↓aug7, ↓aug8, ↓aug9, ↓aug10, ↓aug11, ↓aug12, ↓aug13, ↓aug14, ↓aug15, ↓aug16, ↓aug17, ↓wAugS', ↓ws_Ret, ↓ws_RetT, ↓ws_Drop, ↓ws_For, ↓wSq', ↓wRg', ↓rg1, ↓rg2, ↓rg3, ↓rl1, ↓rl2, ↓rl3, ↓wEn', ↓enV, ↓wZp', ↓zpVV, ↓zpVB, ↓g_add, ↓g_addL, ↓g_addT, ↓g_iadd, ↓g_sub, ↓g_mul, ↓g_mulL, ↓g_fdiv, ↓g_mod, ↓g_pow, ↓g_lt, ↓g_le, ↓g_gt, ↓g_ge, ↓g_eqI, ↓g_neI, ↓g_is, ↓g_isnt, ↓g_ixT, ↓g_ixL, ↓g_ixD, ↓gl_abs, ↓gl_max, ↓gl_min, ↓gl_int, ↓gl_intB, ↓gl_gcd, ↓gl_lenL, ↓gl_lenT, ↓gl_tupL, ↓gl_tupT, ↓gl_lstL, ↓gl_lstT, ↓gl_rep, ↓gl_sortD, ↓gl_sortL, ↓ngI, ↓slL, ↓slT, ↓slS, ↓bo, ↓io, ↓av0, ↓av1, ↓itL, ↓itT, ↓it0, ↓it1, ↓it2, ↓itB, ↓rtB, ↓rt_v, ↓g_ninI, ↓g_inI, ↓w_Lc, ↓w_LcM, ↓turn_nx, wipeL_cons, wipeL_nil, ↓sw0, ↓sw1, ↓sw2, ↓gix2, ↓app0, ↓app1, ↓app2, ↓appB, ↓isL0, ↓isL1, ↓isL2, ↓isLB, ↓isLv, ↓at_head, ↓v0, ↓v1, ↓v2, ↓v3, ↓v4, ↓v5, ↓v6, ↓v7, ↓v8, ↓v9, ↓v10, ↓v11, ↓v12, ↓v13, ↓v14, ↓v15, ↓v16, ↓v17, ↓t0, ↓t1, ↓t2, ↓t3, ↓t4, ↓t5, ↓t6, ↓t7, ↓t8, ↓setAll0, ↓setAll1, List.set_cons_zero, List.set_cons_succ, decide_eq_true_eq, Bool.not_eq_true', decide_eq_false_iff_not, ↓sx0, ↓g_inDI])
    rcases lost_cases (s := s) hn hc with ⟨e1, e2⟩ | ⟨i, fs, t, f, e1, e2, e3, e4, ⟨hf, hf3⟩, ht, e5⟩
    · rw [e1, if_neg (by simp)]
      rw [e2, List.append_nil] at hq
      exact tail L0 _ _ _ _ _ (by omega) ho0 hq
    · rw [e1, if_pos (by rfl)]
      rw [e5] at hq
      refine ⟨rfl, w_timeline hs.sc.1.2 ?_⟩
      try (simp only [↓w_c, ↓w_e2, ↓we1', ↓p_v, ↓pr0, ↓pr1, ↓pr2, ↓pr3, ↓prA, ↓prB, ↓poL, ↓poD, ↓wB', ↓wt_N, ↓wt_An, ↓wt_Or, ↓wt_Ye, ↓w_Bo, ↓w_An, ↓w_Or, ↓w_If, ↓ws_If, ↓wa_Nil, ↓wa_Cons, ↓wTup', ↓wLst', ↓wLstM', ↓w_Dct, ↓w_DctM, ↓w_B, ↓w_Call, ↓wMt', ↓pl_nil, ↓pl_cons, ↓wc_P, ↓wc_M, ↓wSl', ↓wo_No, ↓woS', ↓wRlv, ↓wRlm, ↓ws_Nil, ↓ws_Cons, ↓then_nx, ↓then_rt, ↓ws_Asg, ↓wg_Nm, ↓wg_Tp, ↓wgs_Nil, ↓wgs_Cons, ↓wgSb', ↓ws_Par, ↓aug0, ↓aug1, ↓aug2, ↓aug3, ↓aug4, ↓aug5, ↓aug6, ↓aug7, ↓aug8, ↓aug9, ↓aug10, ↓aug11, ↓aug12, ↓aug13, ↓aug14, ↓aug15, ↓aug16, ↓aug17, ↓wAugS', ↓ws_Ret, ↓ws_RetT, ↓ws_Drop, ↓ws_For, ↓wSq', ↓wRg', ↓rg1, ↓rg2, ↓rg3, ↓rl1, ↓rl2, ↓rl3, ↓wEn', ↓enV, ↓wZp', ↓zpVV, ↓zpVB, ↓g_add, ↓g_addL, ↓g_addT, ↓g_iadd, ↓g_sub, ↓g_mul, ↓g_mulL, ↓g_fdiv, ↓g_mod, ↓g_pow, ↓g_lt, ↓g_le, ↓g_gt, ↓g_ge, ↓g_eqI, ↓g_neI, ↓g_is, ↓g_isnt, ↓g_ixT, ↓g_ixL, ↓g_ixD, ↓gl_abs, ↓gl_max, ↓gl_min, ↓gl_int, ↓gl_intB, ↓gl_gcd, ↓gl_lenL, ↓gl_lenT, ↓gl_tupL, ↓gl_tupT, ↓gl_lstL, ↓gl_lstT, ↓gl_rep, ↓gl_sortD, ↓gl_sortL, ↓ngI, ↓slL, ↓slT, ↓slS, ↓bo, ↓io, ↓av0, ↓av1, ↓itL, ↓itT, ↓it0, ↓it1, ↓it2, ↓itB, ↓rtB, ↓rt_v, ↓g_ninI, ↓g_inI, ↓w_Lc, ↓w_LcM, ↓turn_nx, wipeL_cons, wipeL_nil, ↓sw0, ↓sw1, ↓sw2, ↓gix2, ↓app0, ↓app1, ↓app2, ↓appB, ↓isL0, ↓isL1, ↓isL2, ↓isLB, ↓isLv, ↓at_head, ↓v0, ↓v1, ↓v2, ↓v3, ↓v4, ↓v5, ↓v6, ↓v7, ↓v8, ↓v9, ↓v10, ↓v11, ↓v12, ↓v13, ↓v14, ↓v15, ↓v16, ↓v17, ↓t0, ↓t1, ↓t2, ↓t3, ↓t4, ↓t5, ↓t6, ↓t7, ↓t8, ↓setAll0, ↓setAll1, List.set_cons_zero, List.set_cons_succ, decide_eq_true_eq, Bool.not_eq_true', decide_eq_false_iff_not])
      refine (g_ixDI e1).mpr ((ix_map e3).mpr ?_)
      unfold Tm.v
      try (simp only [↓w_c, ↓w_e2, ↓we1', ↓p_v, ↓pr0, ↓pr1, ↓pr2, ↓pr3, ↓prA, ↓prB, ↓poL, ↓poD, ↓wB', ↓wt_N, ↓wt_An, ↓wt_Or, ↓wt_Ye, ↓w_Bo, ↓w_An, ↓w_Or, ↓w_If, ↓ws_If, ↓wa_Nil, ↓wa_Cons, ↓wTup', ↓wLst', ↓wLstM', ↓w_Dct, ↓w_DctM, ↓w_B, ↓w_Call, ↓wMt', ↓pl_nil, ↓pl_cons, ↓wc_P, ↓wc_M, ↓wSl', ↓wo_No, ↓woS', ↓wRlv, ↓wRlm, ↓ws_Nil, ↓ws_Cons, ↓then_nx, ↓then_rt, ↓ws_Asg, ↓wg_Nm, ↓wg_Tp, ↓wgs_Nil, ↓wgs_Cons, ↓wgSb', ↓ws_Par, ↓aug0, ↓aug1, ↓aug2, ↓aug3, ↓aug4, ↓aug5, ↓aug6, ↓aug7, ↓aug8, ↓aug9, ↓aug10, ↓aug11, ↓aug12, ↓aug13, ↓aug14, ↓aug15, ↓aug16, ↓aug17, ↓wAugS', ↓ws_Ret, ↓ws_RetT, ↓ws_Drop, ↓ws_For, ↓wSq', ↓wRg', ↓rg1, ↓rg2, ↓rg3, ↓rl1, ↓rl2, ↓rl3, ↓wEn', ↓enV, ↓wZp', ↓zpVV, ↓zpVB, ↓g_add, ↓g_addL, ↓g_addT, ↓g_iadd, ↓g_sub, ↓g_mul, ↓g_mulL, ↓g_fdiv, ↓g_mod, ↓g_pow, ↓g_lt, ↓g_le, ↓g_gt, ↓g_ge, ↓g_eqI, ↓g_neI, ↓g_is, ↓g_isnt, ↓g_ixT, ↓g_ixL, ↓g_ixD, ↓gl_abs, ↓gl_max, ↓gl_min, ↓gl_int, ↓gl_intB, ↓gl_gcd, ↓gl_lenL, ↓gl_lenT, ↓gl_tupL, ↓gl_tupT, ↓gl_lstL, ↓gl_lstT, ↓gl_rep, ↓gl_sortD, ↓gl_sortL, ↓ngI, ↓slL, ↓slT, ↓slS, ↓bo, ↓io, ↓av0, ↓av1, ↓itL, ↓itT, ↓it0, ↓it1, ↓it2, ↓itB, ↓rtB, ↓rt_v, ↓g_ninI, ↓g_inI, ↓w_Lc, ↓w_LcM, ↓turn_nx, wipeL_cons, wipeL_nil, ↓sw0, ↓sw1, ↓sw2, ↓gix2, ↓app0, ↓app1, ↓app2, ↓appB, ↓isL0, ↓isL1, ↓isL2, ↓isLB, ↓isLv, ↓at_head, ↓v0, ↓v1, ↓v2, ↓v3, ↓v4, ↓v5, ↓v6, ↓v7, ↓v8, ↓v9, ↓v10, ↓v11, ↓v12, ↓v13, ↓v14, ↓v15, ↓v16, ↓v17, ↓t0, ↓t1, ↓t2, ↓t3, ↓t4, ↓t5, ↓t6, ↓t7, ↓t8, ↓setAll0, ↓setAll1, List.set_cons_zero, List.set_cons_succ, decide_eq_true_eq, Bool.not_eq_true', decide_eq_false_iff_not, ↓sx0])
      refine ⟨rfl, w_lag2 ?_⟩
      try (simp only [↓w_c, ↓w_e2, ↓we1', ↓p_v, ↓pr0, ↓pr1, ↓pr2, ↓pr3, ↓prA, ↓prB, ↓poL, ↓poD, ↓wB', ↓wt_N, ↓wt_An, ↓wt_Or, ↓wt_Ye, ↓w_Bo, ↓w_An, ↓w_Or, ↓w_If, ↓ws_If, ↓wa_Nil, ↓wa_Cons, ↓wTup', ↓wLst', ↓wLstM', ↓w_Dct, ↓w_DctM, ↓w_B, ↓w_Call, ↓wMt', ↓pl_nil, ↓pl_cons, ↓wc_P, ↓wc_M, ↓wSl', ↓wo_No, ↓woS', ↓wRlv, ↓wRlm, ↓ws_Nil, ↓ws_Cons, ↓then_nx, ↓then_rt, ↓ws_Asg, ↓wg_Nm, ↓wg_Tp, ↓wgs_Nil, ↓wgs_Cons, ↓wgSb', ↓ws_Par, ↓aug0, ↓aug1, ↓aug2, ↓aug3, ↓aug4, ↓aug5, ↓aug6, ↓aug7, ↓aug8, ↓aug9, ↓aug10, ↓aug11, ↓aug12, ↓aug13, ↓aug14, ↓aug15, ↓aug16, ↓aug17, ↓wAugS', ↓ws_Ret, ↓ws_RetT, ↓ws_Drop, ↓ws_For, ↓wSq', ↓wRg', ↓rg1, ↓rg2, ↓rg3, ↓rl1, ↓rl2, ↓rl3, ↓wEn', ↓enV, ↓wZp', ↓zpVV, ↓zpVB, ↓g_add, ↓g_addL, ↓g_addT, ↓g_iadd, ↓g_sub, ↓g_mul, ↓g_mulL, ↓g_fdiv, ↓g_mod, ↓g_pow, ↓g_lt, ↓g_le, ↓g_gt, ↓g_ge, ↓g_eqI, ↓g_neI, ↓g_is, ↓g_isnt, ↓g_ixT, ↓g_ixL, ↓g_ixD, ↓gl_abs, ↓gl_max, ↓gl_min, ↓gl_int, ↓gl_intB, ↓gl_gcd, ↓gl_lenL, ↓gl_lenT, ↓gl_tupL, ↓gl_tupT, ↓gl_lstL, ↓gl_lstT, ↓gl_rep, ↓gl_sortD, ↓gl_sortL, ↓ngI, ↓slL, ↓slT, ↓slS, ↓bo, ↓io, ↓av0, ↓av1, ↓itL, ↓itT, ↓it0, ↓it1, ↓it2, ↓itB, ↓rtB, ↓rt_v, ↓g_ninI, ↓g_inI, ↓w_Lc, ↓w_LcM, ↓turn_nx, wipeL_cons, wipeL_nil, ↓sw0, ↓sw1, ↓sw2, ↓gix2, ↓app0, ↓app1, ↓app2, ↓appB, ↓isL0, ↓isL1, ↓isL2, ↓isLB, ↓isLv, ↓at_head, ↓v0, ↓v1, ↓v2, ↓v3, ↓v4, ↓v5, ↓v6, ↓v7, ↓v8, ↓v9, ↓v10, ↓v11, ↓v12, ↓v13, ↓v14, ↓v15, ↓v16, ↓v17, ↓t0, ↓t1, ↓t2, ↓t3, ↓t4, ↓t5, ↓t6, ↓t7, ↓t8, ↓setAll0, ↓setAll1, List.set_cons_zero, List.set_cons_succ, decide_eq_true_eq, Bool.not_eq_true', decide_eq_false_iff_not])
      refine ⟨trivial, rfl, (g_ixDI e2).mpr ((g_ixDI e1).mpr ((ix_map e4).mpr ?_))⟩
      obtain ⟨hl1, hl2⟩ := leave_ok hs ht
      refine ⟨rfl, w_added (x := ⟨t.l - s.b.lag, 1⟩) hl2 hf ?_⟩
      try (simp only [↓w_c, ↓w_e2, ↓we1', ↓p_v, ↓pr0, ↓pr1, ↓pr2, ↓pr3, ↓prA, ↓prB, ↓poL, ↓poD, ↓wB', ↓wt_N, ↓wt_An, ↓wt_Or, ↓wt_Ye, ↓w_Bo, ↓w_An, ↓w_Or, ↓w_If, ↓ws_If, ↓wa_Nil, ↓wa_Cons, ↓wTup', ↓wLst', ↓wLstM', ↓w_Dct, ↓w_DctM, ↓w_B, ↓w_Call, ↓wMt', ↓pl_nil, ↓pl_cons, ↓wc_P, ↓wc_M, ↓wSl', ↓wo_No, ↓woS', ↓wRlv, ↓wRlm, ↓ws_Nil, ↓ws_Cons, ↓then_nx, ↓then_rt, ↓ws_Asg, ↓wg_Nm, ↓wg_Tp, ↓wgs_Nil, ↓wgs_Cons, ↓wgSb', ↓ws_Par, ↓aug0, ↓aug1, ↓aug2, ↓aug3, ↓aug4, ↓aug5, ↓aug6, ↓aug7, ↓aug8, ↓aug9, ↓aug10, ↓aug11, ↓aug12, ↓aug13, ↓aug14, ↓aug15, ↓aug16, ↓aug17, ↓wAugS', ↓ws_Ret, ↓ws_RetT, ↓ws_Drop, ↓ws_For, ↓wSq', ↓wRg', ↓rg1, ↓rg2, ↓rg3, ↓rl1, ↓rl2, ↓rl3, ↓wEn', ↓enV, ↓wZp', ↓zpVV, ↓zpVB, ↓g_add, ↓g_addL, ↓g_addT, ↓g_iadd, ↓g_sub, ↓g_mul, ↓g_mulL, ↓g_fdiv, ↓g_mod, ↓g_pow, ↓g_lt, ↓g_le, ↓g_gt, ↓g_ge, ↓g_eqI, ↓g_neI, ↓g_is, ↓g_isnt, ↓g_ixT, ↓g_ixL, ↓g_ixD, ↓gl_abs, ↓gl_max, ↓gl_min, ↓gl_int, ↓gl_intB, ↓gl_gcd, ↓gl_lenL, ↓gl_lenT, ↓gl_tupL, ↓gl_tupT, ↓gl_lstL, ↓gl_lstT, ↓gl_rep, ↓gl_sortD, ↓gl_sortL, ↓ngI, ↓slL, ↓slT, ↓slS, ↓bo, ↓io, ↓av0, ↓av1, ↓itL, ↓itT, ↓it0, ↓it1, ↓it2, ↓itB, ↓rtB, ↓rt_v, ↓g_ninI, ↓g_inI, ↓w_Lc, ↓w_LcM, ↓turn_nx, wipeL_cons, wipeL_nil, ↓sw0, ↓sw1, ↓sw2, ↓gix2, ↓app0, ↓app1, ↓app2, ↓appB, ↓isL0, ↓isL1, ↓isL2, ↓isLB, ↓isLv, ↓at_head, ↓v0, ↓v1, ↓v2, ↓v3, ↓v4, ↓v5, ↓v6, ↓v7, ↓v8, ↓v9, ↓v10, ↓v11, ↓v12, ↓v13, ↓v14, ↓v15, ↓v16, ↓v17, ↓t0, ↓t1, ↓t2, ↓t3, ↓t4, ↓t5, ↓t6, ↓t7, ↓t8, ↓setAll0, ↓setAll1, List.set_cons_zero, List.set_cons_succ, decide_eq_true_eq, Bool.not_eq_true', decide_eq_false_iff_not])
      refine ⟨by rw [List.length_map]; omega, ?_⟩
      have := tail (L0 ++ [Fr.sum ⟨t.l - s.b.lag, 1⟩ f]) a0 (some (.v (dI Fr.v n.falls))) (some (.v (dI frs n.errs))) (some (.v (dI wds n.winds))) (some (.v (.int (t.l - s.b.lag)))) (by simp; omega) ?_ hq
      · rw [List.map_append] at this
        exact this
      · intro g hg
        rcases List.mem_append.mp hg with hg | hg
        · exact ho0 g hg
        · have e : g = Fr.sum ⟨t.l - s.b.lag, 1⟩ f := by simpa using hg
          rw [e]
          exact sum_ok2 hl1 hf hf3
  try (simp only [↓w_c, ↓w_e2, ↓we1', ↓p_v, ↓pr0, ↓pr1, ↓pr2, ↓pr3, ↓prA, ↓prB, ↓poL, ↓poD, ↓wB', ↓wt_N, ↓wt_An, ↓wt_Or, ↓wt_Ye, ↓w_Bo, ↓w_An, ↓w_Or, ↓w_If, ↓ws_If, ↓wa_Nil, ↓wa_Cons, ↓wTup', ↓wLst', ↓wLstM', ↓w_Dct, ↓w_DctM, ↓w_B, ↓w_Call, ↓wMt', ↓pl_nil, ↓pl_cons, ↓wc_P, ↓wc_M, ↓wSl', ↓wo_No, ↓woS', ↓wRlv, ↓wRlm, ↓ws_Nil, ↓ws_Cons, ↓then_nx, ↓then_rt, ↓ws_Asg, ↓wg_Nm, ↓wg_Tp, ↓wgs_Nil, ↓wgs_Cons, ↓wgSb', ↓ws_Par, ↓aug0, ↓aug1, ↓aug2, ↓aug3, ↓aug4, ↓aug5, ↓aug6, ↓aug7, ↓aug8, ↓aug9, ↓aug10, ↓aug11, ↓aug12, ↓aug13, ↓aug14, ↓aug15, ↓aug16, ↓aug17, ↓wAugS', ↓ws_Ret, ↓ws_RetT, ↓ws_Drop, ↓ws_For, ↓wSq', ↓wRg', ↓rg1, ↓rg2, ↓rg3, ↓rl1, ↓rl2, ↓rl3, ↓wEn', ↓enV, ↓wZp', ↓zpVV, ↓zpVB, ↓g_add, ↓g_addL, ↓g_addT, ↓g_iadd, ↓g_sub, ↓g_mul, ↓g_mulL, ↓g_fdiv, ↓g_mod, ↓g_pow, ↓g_lt, ↓g_le, ↓g_gt, ↓g_ge, ↓g_eqI, ↓g_neI, ↓g_is, ↓g_isnt, ↓g_ixT, ↓g_ixL, ↓g_ixD, ↓gl_abs, ↓gl_max, ↓gl_min, ↓gl_int, ↓gl_intB, ↓gl_gcd, ↓gl_lenL, ↓gl_lenT, ↓gl_tupL, ↓gl_tupT, ↓gl_lstL, ↓gl_lstT, ↓gl_rep, ↓gl_sortD, ↓gl_sortL, ↓ngI, ↓slL, ↓slT, ↓slS, ↓bo, ↓io, ↓av0, ↓av1, ↓itL, ↓itT, ↓it0, ↓it1, ↓it2, ↓itB, ↓rtB, ↓rt_v, ↓g_ninI, ↓g_inI, ↓w_Lc, ↓w_LcM, ↓turn_nx, wipeL_cons, wipeL_nil, ↓sw0, ↓sw1, ↓sw2, ↓gix2, ↓app0, ↓app1, ↓app2, ↓appB, ↓isL0, ↓isL1, ↓isL2, ↓isLB, ↓isLv, ↓at_head, ↓v0, ↓v1, ↓v2, ↓v3, ↓v4, ↓v5, ↓v6, ↓v7, ↓v8, ↓v9, ↓v10, ↓v11, ↓v12, ↓v13, ↓v14, ↓v15, ↓v16, ↓v17, ↓t0, ↓t1, ↓t2, ↓t3, ↓t4, ↓t5, ↓t6, ↓t7, ↓t8, ↓setAll0, ↓setAll1, List.set_cons_zero, List.set_cons_succ, decide_eq_true_eq, Bool.not_eq_true', decide_eq_false_iff_not, ↓nx0, ↓nx1, ↓nx3, ↓g_inDI])
  refine ⟨rfl, ?_⟩
  unfold fallL at q
  cases hk : atK (c : Int) n.falls with
  | none =>
    rw [hk] at q
    rw [if_neg (by simp)]
    refine ⟨rfl, ?_⟩
    exact mid [] _ (by simp) (by simp) q
  | some f =>
    rw [hk] at q
    rw [if_pos (by rfl)]
    refine (g_ixDI hk).mpr ⟨rfl, ?_⟩
    refine mid [f] _ (by simp) ?_ q
    intro g hg
    have e : g = f := by simpa using hg
    rw [e]
    exact (hn.falls.2 _ (atK_mem hk)).2
end K61

namespace K61
open PySem PySem.Spec PyProof.Rows L2 Dn
theorem showI {i : Int} (h : i.natAbs ≤ 2 ^ 60) : showP (.int i) = true := by
  unfold showP
  rw [decide_eq_true_eq]
  by_cases h0 : i.natAbs = 0
  · rw [h0]
    decide
  · have : i.natAbs.log2 < 61 := (Nat.log2_lt h0).mpr (by omega)
    omega
theorem w_alike {S : Sto} {x : PV} {Q : RV → Sto → Prop} (h : dataOk x = true) (ho : okR x = true) (q : Q (.v (.bl true)) S) : WC c__law_alike [.v x, .v x] S Q := by
  refine wc_d rfl ?_
  unfold m__law_alike
  show W _ [some (.v x), some (.v x)] _ _
  simp only [↓w_c, ↓w_e2, ↓we1', ↓p_v, ↓pr0, ↓pr1, ↓pr2, ↓pr3, ↓prA, ↓prB, ↓poL, ↓poD, ↓wB', ↓wt_N, ↓wt_An, ↓wt_Or, ↓wt_Ye, ↓w_Bo, ↓w_An, ↓w_Or, ↓w_If, ↓ws_If, ↓wa_Nil, ↓wa_Cons, ↓wTup', ↓wLst', ↓wLstM', ↓w_Dct, ↓w_DctM, ↓w_B, ↓w_Call, ↓wMt', ↓pl_nil, ↓pl_cons, ↓wc_P, ↓wc_M, ↓wSl', ↓wo_No, ↓woS', ↓wRlv, ↓wRlm, ↓ws_Nil, ↓ws_Cons, ↓then_nx, ↓then_rt, ↓ws_Asg, ↓wg_Nm, ↓wg_Tp, ↓wgs_Nil, ↓wgs_Cons, ↓wgSb', ↓ws_Par, ↓aug0, ↓aug1, ↓aug2, ↓aug3, ↓aug4, ↓aug5, ↓aug6, ↓aug7, ↓aug8, ↓aug9, ↓aug10, ↓aug11, ↓aug12, ↓aug13, ↓aug14, ↓aug15, ↓aug16, ↓aug17, ↓wAugS', ↓ws_Ret, ↓ws_RetT, ↓ws_Drop, ↓ws_For, ↓wSq', ↓wRg', ↓rg1, ↓rg2, ↓rg3, ↓rl1, ↓rl2, ↓rl3, ↓wEn', ↓enV, ↓wZp', ↓zpVV, ↓zpVB, ↓g_add, ↓g_addL, ↓g_addT, ↓g_iadd, ↓g_sub, ↓g_mul, ↓g_mulL, ↓g_fdiv, ↓g_mod, ↓g_pow, ↓g_lt, ↓g_le, ↓g_gt, ↓g_ge, ↓g_eqI, ↓g_neI, ↓g_is, ↓g_isnt, ↓g_ixT, ↓g_ixL, ↓g_ixD, ↓gl_abs, ↓gl_max, ↓gl_min, ↓gl_int, ↓gl_intB, ↓gl_gcd, ↓gl_lenL, ↓gl_lenT, ↓gl_tupL, ↓gl_tupT, ↓gl_lstL, ↓gl_lstT, ↓gl_rep, ↓gl_sortD, ↓gl_sortL, ↓ngI, ↓slL, ↓slT, ↓slS, ↓bo, ↓io, ↓av0, ↓av1, ↓itL, ↓itT, ↓it0, ↓it1, ↓it2, ↓itB, ↓rtB, ↓rt_v, ↓g_ninI, ↓g_inI, ↓w_Lc, ↓w_LcM, ↓turn_nx, wipeL_cons, wipeL_nil, ↓sw0, ↓sw1, ↓sw2, ↓gix2, ↓app0, ↓app1, ↓app2, ↓appB, ↓isL0, ↓isL1, ↓isL2, ↓isLB, ↓isLv, ↓at_head, ↓v0, ↓v1, ↓v2, ↓v3, ↓v4, ↓v5, ↓v6, ↓v7, ↓v8, ↓v9, ↓v10, ↓v11, ↓v12, ↓v13, ↓v14, ↓v15, ↓v16, ↓v17, ↓t0, ↓t1, ↓t2, ↓t3, ↓t4, ↓t5, ↓t6, ↓t7, ↓t8, ↓setAll0, ↓setAll1, List.set_cons_zero, List.set_cons_succ, decide_eq_true_eq, Bool.not_eq_true', decide_eq_false_iff_not]
  refine (g_eqSame h).mpr ?_
  try (simp only [↓w_c, ↓w_e2, ↓we1', ↓p_v, ↓pr0, ↓pr1, ↓pr2, ↓pr3, ↓prA, ↓prB, ↓poL, ↓poD, ↓wB', ↓wt_N, ↓wt_An, ↓wt_Or, ↓wt_Ye, ↓w_Bo, ↓w_An, ↓w_Or, ↓w_If, ↓ws_If, ↓wa_Nil, ↓wa_Cons, ↓wTup', ↓wLst', ↓wLstM', ↓w_Dct, ↓w_DctM, ↓w_B, ↓w_Call, ↓wMt', ↓pl_nil, ↓pl_cons, ↓wc_P, ↓wc_M, ↓wSl', ↓wo_No, ↓woS', ↓wRlv, ↓wRlm, ↓ws_Nil, ↓ws_Cons, ↓then_nx, ↓then_rt, ↓ws_Asg, ↓wg_Nm, ↓wg_Tp, ↓wgs_Nil, ↓wgs_Cons, ↓wgSb', ↓ws_Par, ↓aug0, ↓aug1, ↓aug2, ↓aug3, ↓aug4, ↓aug5, ↓aug6, ↓aug7, ↓aug8, ↓aug9, ↓aug10, ↓aug11, ↓aug12, ↓aug13, ↓aug14, ↓aug15, ↓aug16, ↓aug17, ↓wAugS', ↓ws_Ret, ↓ws_RetT, ↓ws_Drop, ↓ws_For, ↓wSq', ↓wRg', ↓rg1, ↓rg2, ↓rg3, ↓rl1, ↓rl2, ↓rl3, ↓wEn', ↓enV, ↓wZp', ↓zpVV, ↓zpVB, ↓g_add, ↓g_addL, ↓g_addT, ↓g_iadd, ↓g_sub, ↓g_mul, ↓g_mulL, ↓g_fdiv, ↓g_mod, ↓g_pow, ↓g_lt, ↓g_le, ↓g_gt, ↓g_ge, ↓g_eqI, ↓g_neI, ↓g_is, ↓g_isnt, ↓g_ixT, ↓g_ixL, ↓g_ixD, ↓gl_abs, ↓gl_max, ↓gl_min, ↓gl_int, ↓gl_intB, ↓gl_gcd, ↓gl_lenL, ↓gl_lenT, ↓gl_tupL, ↓gl_tupT, ↓gl_lstL, ↓gl_lstT, ↓gl_rep, ↓gl_sortD, ↓gl_sortL, ↓ngI, ↓slL, ↓slT, ↓slS, ↓bo, ↓io, ↓av0, ↓av1, ↓itL, ↓itT, ↓it0, ↓it1, ↓it2, ↓itB, ↓rtB, ↓rt_v, ↓g_ninI, ↓g_inI, ↓w_Lc, ↓w_LcM, ↓turn_nx, wipeL_cons, wipeL_nil, ↓sw0, ↓sw1, ↓sw2, ↓gix2, ↓app0, ↓app1, ↓app2, ↓appB, ↓isL0, ↓isL1, ↓isL2, ↓isLB, ↓isLv, ↓at_head, ↓v0, ↓v1, ↓v2, ↓v3, ↓v4, ↓v5, ↓v6, ↓v7, ↓v8, ↓v9, ↓v10, ↓v11, ↓v12, ↓v13, ↓v14, ↓v15, ↓v16, ↓v17, ↓t0, ↓t1, ↓t2, ↓t3, ↓t4, ↓t5, ↓t6, ↓t7, ↓t8, ↓setAll0, ↓setAll1, List.set_cons_zero, List.set_cons_succ, decide_eq_true_eq, Bool.not_eq_true', decide_eq_false_iff_not])
  refine ⟨ho, ho, (g_eqSame rfl).mpr ?_⟩
  exact end0 q
/-- what is due for a carrier -/
def dueF (s : Show) (n : Night) : PV → PV
  | .int i => leastP (fallL s n i)
  | _ => .non
def dueL (s : Show) (n : Night) : List PV := (rngV 0 s.pads.length).map (dueF s n)
def fellL (s : Show) (n : Night) : List PV := (rngV 0 s.pads.length).filter fun x => !Dn.isNon (dueF s n x)
theorem w_carriers {S : Sto} {s : Show} {Q : RV → Sto → Prop} (hs : s.Ok) (q : Q (.v (.lst (rngV 0 s.pads.length))) S) : WC c_carriers_of [.v s.v] S Q := by
  refine wc_d rfl ?_
  unfold m_carriers_of
  show W _ [some (.v s.v)] _ _
  have hp := hs.pads.1
  try (simp only [↓w_c, ↓w_e2, ↓we1', ↓p_v, ↓pr0, ↓pr1, ↓pr2, ↓pr3, ↓prA, ↓prB, ↓poL, ↓poD, ↓wB', ↓wt_N, ↓wt_An, ↓wt_Or, ↓wt_Ye, ↓w_Bo, ↓w_An, ↓w_Or, ↓w_If, ↓ws_If, ↓wa_Nil, ↓wa_Cons, ↓wTup', ↓wLst', ↓wLstM', ↓w_Dct, ↓w_DctM, ↓w_B, ↓w_Call, ↓wMt', ↓pl_nil, ↓pl_cons, ↓wc_P, ↓wc_M, ↓wSl', ↓wo_No, ↓woS', ↓wRlv, ↓wRlm, ↓ws_Nil, ↓ws_Cons, ↓then_nx, ↓then_rt, ↓ws_Asg, ↓wg_Nm, ↓wg_Tp, ↓wgs_Nil, ↓wgs_Cons, ↓wgSb', ↓ws_Par, ↓aug0, ↓aug1, ↓aug2, ↓aug3, ↓aug4, ↓aug5, ↓aug6, ↓aug7, ↓aug8, ↓aug9, ↓aug10, ↓aug11, ↓aug12, ↓aug13, ↓aug14, ↓aug15, ↓aug16, ↓aug17, ↓wAugS', ↓ws_Ret, ↓ws_RetT, ↓ws_Drop, ↓ws_For, ↓wSq', ↓wRg', ↓rg1, ↓rg2, ↓rg3, ↓rl1, ↓rl2, ↓rl3, ↓wEn', ↓enV, ↓wZp', ↓zpVV, ↓zpVB, ↓g_add, ↓g_addL, ↓g_addT, ↓g_iadd, ↓g_sub, ↓g_mul, ↓g_mulL, ↓g_fdiv, ↓g_mod, ↓g_pow, ↓g_lt, ↓g_le, ↓g_gt, ↓g_ge, ↓g_eqI, ↓g_neI, ↓g_is, ↓g_isnt, ↓g_ixT, ↓g_ixL, ↓g_ixD, ↓gl_abs, ↓gl_max, ↓gl_min, ↓gl_int, ↓gl_intB, ↓gl_gcd, ↓gl_lenL, ↓gl_lenT, ↓gl_tupL, ↓gl_tupT, ↓gl_lstL, ↓gl_lstT, ↓gl_rep, ↓gl_sortD, ↓gl_sortL, ↓ngI, ↓slL, ↓slT, ↓slS, ↓bo, ↓io, ↓av0, ↓av1, ↓itL, ↓itT, ↓it0, ↓it1, ↓it2, ↓itB, ↓rtB, ↓rt_v, ↓g_ninI, ↓g_inI, ↓w_Lc, ↓w_LcM, ↓turn_nx, wipeL_cons, wipeL_nil, ↓sw0, ↓sw1, ↓sw2, ↓gix2, ↓app0, ↓app1, ↓app2, ↓appB, ↓isL0, ↓isL1, ↓isL2, ↓isLB, ↓isLv, ↓at_head, ↓v0, ↓v1, ↓v2, ↓v3, ↓v4, ↓v5, ↓v6, ↓v7, ↓v8, ↓v9, ↓v10, ↓v11, ↓v12, ↓v13, ↓v14, ↓v15, ↓v16, ↓v17, ↓t0, ↓t1, ↓t2, ↓t3, ↓t4, ↓t5, ↓t6, ↓t7, ↓t8, ↓setAll0, ↓setAll1, List.set_cons_zero, List.set_cons_succ, decide_eq_true_eq, Bool.not_eq_true', decide_eq_false_iff_not, ↓sx1])
  refine ⟨by rw [big_of (by omega) (by rw [List.length_map]; omega)]; exact small_of.mpr (by rw [List.length_map]; omega), end0 ?_⟩
  rw [List.length_map, Int.toNat_natCast]
  exact q
theorem w_struck {S : Sto} {s : Show} {n : Night} {Q : RV → Sto → Prop} (hs : s.Ok) (hn : n.Ok s.sc.length s.pads.length) (q : Q (.v (.tup (fellL s n))) S) : WC c_struck [.v s.v, .v n.v] S Q := by
  refine wc_d rfl ?_
  unfold m_struck
  show W _ [some (.v s.v), some (.v n.v), none] _ _
  have hp := hs.pads.1
  simp only [↓w_c, ↓w_e2, ↓we1', ↓p_v, ↓pr0, ↓pr1, ↓pr2, ↓pr3, ↓prA, ↓prB, ↓poL, ↓poD, ↓wB', ↓wt_N, ↓wt_An, ↓wt_Or, ↓wt_Ye, ↓w_Bo, ↓w_An, ↓w_Or, ↓w_If, ↓ws_If, ↓wa_Nil, ↓wa_Cons, ↓wTup', ↓wLst', ↓wLstM', ↓w_Dct, ↓w_DctM, ↓w_B, ↓w_Call, ↓wMt', ↓pl_nil, ↓pl_cons, ↓wc_P, ↓wc_M, ↓wSl', ↓wo_No, ↓woS', ↓wRlv, ↓wRlm, ↓ws_Nil, ↓ws_Cons, ↓then_nx, ↓then_rt, ↓ws_Asg, ↓wg_Nm, ↓wg_Tp, ↓wgs_Nil, ↓wgs_Cons, ↓wgSb', ↓ws_Par, ↓aug0, ↓aug1, ↓aug2, ↓aug3, ↓aug4, ↓aug5, ↓aug6, ↓aug7, ↓aug8, ↓aug9, ↓aug10, ↓aug11, ↓aug12, ↓aug13, ↓aug14, ↓aug15, ↓aug16, ↓aug17, ↓wAugS', ↓ws_Ret, ↓ws_RetT, ↓ws_Drop, ↓ws_For, ↓wSq', ↓wRg', ↓rg1, ↓rg2, ↓rg3, ↓rl1, ↓rl2, ↓rl3, ↓wEn', ↓enV, ↓wZp', ↓zpVV, ↓zpVB, ↓g_add, ↓g_addL, ↓g_addT, ↓g_iadd, ↓g_sub, ↓g_mul, ↓g_mulL, ↓g_fdiv, ↓g_mod, ↓g_pow, ↓g_lt, ↓g_le, ↓g_gt, ↓g_ge, ↓g_eqI, ↓g_neI, ↓g_is, ↓g_isnt, ↓g_ixT, ↓g_ixL, ↓g_ixD, ↓gl_abs, ↓gl_max, ↓gl_min, ↓gl_int, ↓gl_intB, ↓gl_gcd, ↓gl_lenL, ↓gl_lenT, ↓gl_tupL, ↓gl_tupT, ↓gl_lstL, ↓gl_lstT, ↓gl_rep, ↓gl_sortD, ↓gl_sortL, ↓ngI, ↓slL, ↓slT, ↓slS, ↓bo, ↓io, ↓av0, ↓av1, ↓itL, ↓itT, ↓it0, ↓it1, ↓it2, ↓itB, ↓rtB, ↓rt_v, ↓g_ninI, ↓g_inI, ↓w_Lc, ↓w_LcM, ↓turn_nx, wipeL_cons, wipeL_nil, ↓sw0, ↓sw1, ↓sw2, ↓gix2, ↓app0, ↓app1, ↓app2, ↓appB, ↓isL0, ↓isL1, ↓isL2, ↓isLB, ↓isLv, ↓at_head, ↓v0, ↓v1, ↓v2, ↓v3, ↓v4, ↓v5, ↓v6, ↓v7, ↓v8, ↓v9, ↓v10, ↓v11, ↓v12, ↓v13, ↓v14, ↓v15, ↓v16, ↓v17, ↓t0, ↓t1, ↓t2, ↓t3, ↓t4, ↓t5, ↓t6, ↓t7, ↓t8, ↓setAll0, ↓setAll1, List.set_cons_zero, List.set_cons_succ, decide_eq_true_eq, Bool.not_eq_true', decide_eq_false_iff_not]
  refine ⟨rfl, w_carriers hs ?_⟩
  try (simp only [↓w_c, ↓w_e2, ↓we1', ↓p_v, ↓pr0, ↓pr1, ↓pr2, ↓pr3, ↓prA, ↓prB, ↓poL, ↓poD, ↓wB', ↓wt_N, ↓wt_An, ↓wt_Or, ↓wt_Ye, ↓w_Bo, ↓w_An, ↓w_Or, ↓w_If, ↓ws_If, ↓wa_Nil, ↓wa_Cons, ↓wTup', ↓wLst', ↓wLstM', ↓w_Dct, ↓w_DctM, ↓w_B, ↓w_Call, ↓wMt', ↓pl_nil, ↓pl_cons, ↓wc_P, ↓wc_M, ↓wSl', ↓wo_No, ↓woS', ↓wRlv, ↓wRlm, ↓ws_Nil, ↓ws_Cons, ↓then_nx, ↓then_rt, ↓ws_Asg, ↓wg_Nm, ↓wg_Tp, ↓wgs_Nil, ↓wgs_Cons, ↓wgSb', ↓ws_Par, ↓aug0, ↓aug1, ↓aug2, ↓aug3, ↓aug4, ↓aug5, ↓aug6, ↓aug7, ↓aug8, ↓aug9, ↓aug10, ↓aug11, ↓aug12, ↓aug13, ↓aug14, ↓aug15, ↓aug16, ↓aug17, ↓wAugS', ↓ws_Ret, ↓ws_RetT, ↓ws_Drop, ↓ws_For, ↓wSq', ↓wRg', ↓rg1, ↓rg2, ↓rg3, ↓rl1, ↓rl2, ↓rl3, ↓wEn', ↓enV, ↓wZp', ↓zpVV, ↓zpVB, ↓g_add, ↓g_addL, ↓g_addT, ↓g_iadd, ↓g_sub, ↓g_mul, ↓g_mulL, ↓g_fdiv, ↓g_mod, ↓g_pow, ↓g_lt, ↓g_le, ↓g_gt, ↓g_ge, ↓g_eqI, ↓g_neI, ↓g_is, ↓g_isnt, ↓g_ixT, ↓g_ixL, ↓g_ixD, ↓gl_abs, ↓gl_max, ↓gl_min, ↓gl_int, ↓gl_intB, ↓gl_gcd, ↓gl_lenL, ↓gl_lenT, ↓gl_tupL, ↓gl_tupT, ↓gl_lstL, ↓gl_lstT, ↓gl_rep, ↓gl_sortD, ↓gl_sortL, ↓ngI, ↓slL, ↓slT, ↓slS, ↓bo, ↓io, ↓av0, ↓av1, ↓itL, ↓itT, ↓it0, ↓it1, ↓it2, ↓itB, ↓rtB, ↓rt_v, ↓g_ninI, ↓g_inI, ↓w_Lc, ↓w_LcM, ↓turn_nx, wipeL_cons, wipeL_nil, ↓sw0, ↓sw1, ↓sw2, ↓gix2, ↓app0, ↓app1, ↓app2, ↓appB, ↓isL0, ↓isL1, ↓isL2, ↓isLB, ↓isLv, ↓at_head, ↓v0, ↓v1, ↓v2, ↓v3, ↓v4, ↓v5, ↓v6, ↓v7, ↓v8, ↓v9, ↓v10, ↓v11, ↓v12, ↓v13, ↓v14, ↓v15, ↓v16, ↓v17, ↓t0, ↓t1, ↓t2, ↓t3, ↓t4, ↓t5, ↓t6, ↓t7, ↓t8, ↓setAll0, ↓setAll1, List.set_cons_zero, List.set_cons_succ, decide_eq_true_eq, Bool.not_eq_true', decide_eq_false_iff_not])
  refine ⟨small_of.mpr (by rw [rngV_length]; omega), ?_⟩
  refine wl_pure (fun x => !Dn.isNon (dueF s n x)) (fun x => x) (ok_nil _) ?_ ?_
  · intro x hx
    obtain ⟨m, hm⟩ := List.getElem?_of_mem hx
    obtain ⟨hlt, rfl⟩ := rngV_get hm
    rw [Int.zero_add]
    simp only [↓w_c, ↓w_e2, ↓we1', ↓p_v, ↓pr0, ↓pr1, ↓pr2, ↓pr3, ↓prA, ↓prB, ↓poL, ↓poD, ↓wB', ↓wt_N, ↓wt_An, ↓wt_Or, ↓wt_Ye, ↓w_Bo, ↓w_An, ↓w_Or, ↓w_If, ↓ws_If, ↓wa_Nil, ↓wa_Cons, ↓wTup', ↓wLst', ↓wLstM', ↓w_Dct, ↓w_DctM, ↓w_B, ↓w_Call, ↓wMt', ↓pl_nil, ↓pl_cons, ↓wc_P, ↓wc_M, ↓wSl', ↓wo_No, ↓woS', ↓wRlv, ↓wRlm, ↓ws_Nil, ↓ws_Cons, ↓then_nx, ↓then_rt, ↓ws_Asg, ↓wg_Nm, ↓wg_Tp, ↓wgs_Nil, ↓wgs_Cons, ↓wgSb', ↓ws_Par, ↓aug0, ↓aug1, ↓aug2, ↓aug3, ↓aug4, ↓aug5, ↓aug6, ↓aug7, ↓aug8, ↓aug9, ↓aug10, ↓aug11, ↓aug12, ↓aug13, ↓aug14, ↓aug15, ↓aug16, ↓aug17, ↓wAugS', ↓ws_Ret, ↓ws_RetT, ↓ws_Drop, ↓ws_For, ↓wSq', ↓wRg', ↓rg1, ↓rg2, ↓rg3, ↓rl1, ↓rl2, ↓rl3, ↓wEn', ↓enV, ↓wZp', ↓zpVV, ↓zpVB, ↓g_add, ↓g_addL, ↓g_addT, ↓g_iadd, ↓g_sub, ↓g_mul, ↓g_mulL, ↓g_fdiv, ↓g_mod, ↓g_pow, ↓g_lt, ↓g_le, ↓g_gt, ↓g_ge, ↓g_eqI, ↓g_neI, ↓g_is, ↓g_isnt, ↓g_ixT, ↓g_ixL, ↓g_ixD, ↓gl_abs, ↓gl_max, ↓gl_min, ↓gl_int, ↓gl_intB, ↓gl_gcd, ↓gl_lenL, ↓gl_lenT, ↓gl_tupL, ↓gl_tupT, ↓gl_lstL, ↓gl_lstT, ↓gl_rep, ↓gl_sortD, ↓gl_sortL, ↓ngI, ↓slL, ↓slT, ↓slS, ↓bo, ↓io, ↓av0, ↓av1, ↓itL, ↓itT, ↓it0, ↓it1, ↓it2, ↓itB, ↓rtB, ↓rt_v, ↓g_ninI, ↓g_inI, ↓w_Lc, ↓w_LcM, ↓turn_nx, wipeL_cons, wipeL_nil, ↓sw0, ↓sw1, ↓sw2, ↓gix2, ↓app0, ↓app1, ↓app2, ↓appB, ↓isL0, ↓isL1, ↓isL2, ↓isLB, ↓isLv, ↓at_head, ↓v0, ↓v1, ↓v2, ↓v3, ↓v4, ↓v5, ↓v6, ↓v7, ↓v8, ↓v9, ↓v10, ↓v11, ↓v12, ↓v13, ↓v14, ↓v15, ↓v16, ↓v17, ↓t0, ↓t1, ↓t2, ↓t3, ↓t4, ↓t5, ↓t6, ↓t7, ↓t8, ↓setAll0, ↓setAll1, List.set_cons_zero, List.set_cons_succ, decide_eq_true_eq, Bool.not_eq_true', decide_eq_false_iff_not]
    refine ⟨rfl, w_fallof hs hn hlt ?_⟩
    try (simp only [↓w_c, ↓w_e2, ↓we1', ↓p_v, ↓pr0, ↓pr1, ↓pr2, ↓pr3, ↓prA, ↓prB, ↓poL, ↓poD, ↓wB', ↓wt_N, ↓wt_An, ↓wt_Or, ↓wt_Ye, ↓w_Bo, ↓w_An, ↓w_Or, ↓w_If, ↓ws_If, ↓wa_Nil, ↓wa_Cons, ↓wTup', ↓wLst', ↓wLstM', ↓w_Dct, ↓w_DctM, ↓w_B, ↓w_Call, ↓wMt', ↓pl_nil, ↓pl_cons, ↓wc_P, ↓wc_M, ↓wSl', ↓wo_No, ↓woS', ↓wRlv, ↓wRlm, ↓ws_Nil, ↓ws_Cons, ↓then_nx, ↓then_rt, ↓ws_Asg, ↓wg_Nm, ↓wg_Tp, ↓wgs_Nil, ↓wgs_Cons, ↓wgSb', ↓ws_Par, ↓aug0, ↓aug1, ↓aug2, ↓aug3, ↓aug4, ↓aug5, ↓aug6, ↓aug7, ↓aug8, ↓aug9, ↓aug10, ↓aug11, ↓aug12, ↓aug13, ↓aug14, ↓aug15, ↓aug16, ↓aug17, ↓wAugS', ↓ws_Ret, ↓ws_RetT, ↓ws_Drop, ↓ws_For, ↓wSq', ↓wRg', ↓rg1, ↓rg2, ↓rg3, ↓rl1, ↓rl2, ↓rl3, ↓wEn', ↓enV, ↓wZp', ↓zpVV, ↓zpVB, ↓g_add, ↓g_addL, ↓g_addT, ↓g_iadd, ↓g_sub, ↓g_mul, ↓g_mulL, ↓g_fdiv, ↓g_mod, ↓g_pow, ↓g_lt, ↓g_le, ↓g_gt, ↓g_ge, ↓g_eqI, ↓g_neI, ↓g_is, ↓g_isnt, ↓g_ixT, ↓g_ixL, ↓g_ixD, ↓gl_abs, ↓gl_max, ↓gl_min, ↓gl_int, ↓gl_intB, ↓gl_gcd, ↓gl_lenL, ↓gl_lenT, ↓gl_tupL, ↓gl_tupT, ↓gl_lstL, ↓gl_lstT, ↓gl_rep, ↓gl_sortD, ↓gl_sortL, ↓ngI, ↓slL, ↓slT, ↓slS, ↓bo, ↓io, ↓av0, ↓av1, ↓itL, ↓itT, ↓it0, ↓it1, ↓it2, ↓itB, ↓rtB, ↓rt_v, ↓g_ninI, ↓g_inI, ↓w_Lc, ↓w_LcM, ↓turn_nx, wipeL_cons, wipeL_nil, ↓sw0, ↓sw1, ↓sw2, ↓gix2, ↓app0, ↓app1, ↓app2, ↓appB, ↓isL0, ↓isL1, ↓isL2, ↓isLB, ↓isLv, ↓at_head, ↓v0, ↓v1, ↓v2, ↓v3, ↓v4, ↓v5, ↓v6, ↓v7, ↓v8, ↓v9, ↓v10, ↓v11, ↓v12, ↓v13, ↓v14, ↓v15, ↓v16, ↓v17, ↓t0, ↓t1, ↓t2, ↓t3, ↓t4, ↓t5, ↓t6, ↓t7, ↓t8, ↓setAll0, ↓setAll1, List.set_cons_zero, List.set_cons_succ, decide_eq_true_eq, Bool.not_eq_true', decide_eq_false_iff_not])
    exact ⟨trivial, rfl, fun _ => ⟨trivial, trivial⟩⟩
  · rw [List.map_id']
    try (simp only [↓w_c, ↓w_e2, ↓we1', ↓p_v, ↓pr0, ↓pr1, ↓pr2, ↓pr3, ↓prA, ↓prB, ↓poL, ↓poD, ↓wB', ↓wt_N, ↓wt_An, ↓wt_Or, ↓wt_Ye, ↓w_Bo, ↓w_An, ↓w_Or, ↓w_If, ↓ws_If, ↓wa_Nil, ↓wa_Cons, ↓wTup', ↓wLst', ↓wLstM', ↓w_Dct, ↓w_DctM, ↓w_B, ↓w_Call, ↓wMt', ↓pl_nil, ↓pl_cons, ↓wc_P, ↓wc_M, ↓wSl', ↓wo_No, ↓woS', ↓wRlv, ↓wRlm, ↓ws_Nil, ↓ws_Cons, ↓then_nx, ↓then_rt, ↓ws_Asg, ↓wg_Nm, ↓wg_Tp, ↓wgs_Nil, ↓wgs_Cons, ↓wgSb', ↓ws_Par, ↓aug0, ↓aug1, ↓aug2, ↓aug3, ↓aug4, ↓aug5, ↓aug6, ↓aug7, ↓aug8, ↓aug9, ↓aug10, ↓aug11, ↓aug12, ↓aug13, ↓aug14, ↓aug15, ↓aug16, ↓aug17, ↓wAugS', ↓ws_Ret, ↓ws_RetT, ↓ws_Drop, ↓ws_For, ↓wSq', ↓wRg', ↓rg1, ↓rg2, ↓rg3, ↓rl1, ↓rl2, ↓rl3, ↓wEn', ↓enV, ↓wZp', ↓zpVV, ↓zpVB, ↓g_add, ↓g_addL, ↓g_addT, ↓g_iadd, ↓g_sub, ↓g_mul, ↓g_mulL, ↓g_fdiv, ↓g_mod, ↓g_pow, ↓g_lt, ↓g_le, ↓g_gt, ↓g_ge, ↓g_eqI, ↓g_neI, ↓g_is, ↓g_isnt, ↓g_ixT, ↓g_ixL, ↓g_ixD, ↓gl_abs, ↓gl_max, ↓gl_min, ↓gl_int, ↓gl_intB, ↓gl_gcd, ↓gl_lenL, ↓gl_lenT, ↓gl_tupL, ↓gl_tupT, ↓gl_lstL, ↓gl_lstT, ↓gl_rep, ↓gl_sortD, ↓gl_sortL, ↓ngI, ↓slL, ↓slT, ↓slS, ↓bo, ↓io, ↓av0, ↓av1, ↓itL, ↓itT, ↓it0, ↓it1, ↓it2, ↓itB, ↓rtB, ↓rt_v, ↓g_ninI, ↓g_inI, ↓w_Lc, ↓w_LcM, ↓turn_nx, wipeL_cons, wipeL_nil, ↓sw0, ↓sw1, ↓sw2, ↓gix2, ↓app0, ↓app1, ↓app2, ↓appB, ↓isL0, ↓isL1, ↓isL2, ↓isLB, ↓isLv, ↓at_head, ↓v0, ↓v1, ↓v2, ↓v3, ↓v4, ↓v5, ↓v6, ↓v7, ↓v8, ↓v9, ↓v10, ↓v11, ↓v12, ↓v13, ↓v14, ↓v15, ↓v16, ↓v17, ↓t0, ↓t1, ↓t2, ↓t3, ↓t4, ↓t5, ↓t6, ↓t7, ↓t8, ↓setAll0, ↓setAll1, List.set_cons_zero, List.set_cons_succ, decide_eq_true_eq, Bool.not_eq_true', decide_eq_false_iff_not])
    exact end0 q
end K61

namespace K61
open PySem PySem.Spec PyProof.Rows L2 Dn
theorem wc_keep {nN np : Nat} {mb : SM} {xs : List RV} {S : Sto} {Q : RV → Sto → Prop} (hl : xs.length = np) (h : W mb (startL nN xs) S fun o S1 => ∃ x, o = .rt (.one x) ∧ Q x S1) : WC (fnSem nN np true mb) xs S Q := by
  rw [wc_fn]
  refine ⟨hl, h.mono ?_⟩
  rintro o S1 ⟨x, rfl, q⟩
  refine ⟨x, S1, ?_, q⟩
  unfold endR fin
  dsimp only
  rw [if_pos rfl]
theorem w_bag {ns : List Int} {Q : RV → Sto → Prop} (h : ns.length ≤ 63) (k : ∀ o, BagO o → Q (.ref 0) [o]) : WC c__law_bag [.v (.scr ns)] [] Q := by
  refine wc_keep rfl ?_
  unfold m__law_bag
  show W _ [some (.v (.scr ns)), none] _ _
  simp only [↓w_c, ↓w_e2, ↓we1', ↓p_v, ↓pr0, ↓pr1, ↓pr2, ↓pr3, ↓prA, ↓prB, ↓poL, ↓poD, ↓wB', ↓wt_N, ↓wt_An, ↓wt_Or, ↓wt_Ye, ↓w_Bo, ↓w_An, ↓w_Or, ↓w_If, ↓ws_If, ↓wa_Nil, ↓wa_Cons, ↓wTup', ↓wLst', ↓wLstM', ↓w_Dct, ↓w_DctM, ↓w_B, ↓w_Call, ↓wMt', ↓pl_nil, ↓pl_cons, ↓wc_P, ↓wc_M, ↓wSl', ↓wo_No, ↓woS', ↓wRlv, ↓wRlm, ↓ws_Nil, ↓ws_Cons, ↓then_nx, ↓then_rt, ↓ws_Asg, ↓wg_Nm, ↓wg_Tp, ↓wgs_Nil, ↓wgs_Cons, ↓wgSb', ↓ws_Par, ↓aug0, ↓aug1, ↓aug2, ↓aug3, ↓aug4, ↓aug5, ↓aug6, ↓aug7, ↓aug8, ↓aug9, ↓aug10, ↓aug11, ↓aug12, ↓aug13, ↓aug14, ↓aug15, ↓aug16, ↓aug17, ↓wAugS', ↓ws_Ret, ↓ws_RetT, ↓ws_Drop, ↓ws_For, ↓wSq', ↓wRg', ↓rg1, ↓rg2, ↓rg3, ↓rl1, ↓rl2, ↓rl3, ↓wEn', ↓enV, ↓wZp', ↓zpVV, ↓zpVB, ↓g_add, ↓g_addL, ↓g_addT, ↓g_iadd, ↓g_sub, ↓g_mul, ↓g_mulL, ↓g_fdiv, ↓g_mod, ↓g_pow, ↓g_lt, ↓g_le, ↓g_gt, ↓g_ge, ↓g_eqI, ↓g_neI, ↓g_is, ↓g_isnt, ↓g_ixT, ↓g_ixL, ↓g_ixD, ↓gl_abs, ↓gl_max, ↓gl_min, ↓gl_int, ↓gl_intB, ↓gl_gcd, ↓gl_lenL, ↓gl_lenT, ↓gl_tupL, ↓gl_tupT, ↓gl_lstL, ↓gl_lstT, ↓gl_rep, ↓gl_sortD, ↓gl_sortL, ↓ngI, ↓slL, ↓slT, ↓slS, ↓bo, ↓io, ↓av0, ↓av1, ↓itL, ↓itT, ↓it0, ↓it1, ↓it2, ↓itB, ↓rtB, ↓rt_v, ↓g_ninI, ↓g_inI, ↓w_Lc, ↓w_LcM, ↓turn_nx, wipeL_cons, wipeL_nil, ↓sw0, ↓sw1, ↓sw2, ↓gix2, ↓app0, ↓app1, ↓app2, ↓appB, ↓isL0, ↓isL1, ↓isL2, ↓isLB, ↓isLv, ↓at_head, ↓v0, ↓v1, ↓v2, ↓v3, ↓v4, ↓v5, ↓v6, ↓v7, ↓v8, ↓v9, ↓v10, ↓v11, ↓v12, ↓v13, ↓v14, ↓v15, ↓v16, ↓v17, ↓t0, ↓t1, ↓t2, ↓t3, ↓t4, ↓t5, ↓t6, ↓t7, ↓t8, ↓setAll0, ↓setAll1, List.set_cons_zero, List.set_cons_succ, decide_eq_true_eq, Bool.not_eq_true', decide_eq_false_iff_not]
  obtain ⟨ds, hds, hdl⟩ := cut_ints ns none (some 63)
  rw [hds]
  refine ⟨small_of.mpr (by rw [List.length_map]; omega), ?_⟩
  refine wl_inv (fun i acc S' => S' = [] ∧ ∃ cs : List Int, acc = cs.map PV.int ∧ cs.length = i) ⟨rfl, [], rfl, rfl⟩ ?_ ?_
  · rintro i x acc S' hx ⟨rfl, cs, rfl, hi⟩
    refine ⟨ok_nil _, ?_⟩
    rw [List.getElem?_map] at hx
    obtain ⟨j, hj, rfl⟩ := Option.map_eq_some_iff.mp hx
    simp only [↓w_c, ↓w_e2, ↓we1', ↓p_v, ↓pr0, ↓pr1, ↓pr2, ↓pr3, ↓prA, ↓prB, ↓poL, ↓poD, ↓wB', ↓wt_N, ↓wt_An, ↓wt_Or, ↓wt_Ye, ↓w_Bo, ↓w_An, ↓w_Or, ↓w_If, ↓ws_If, ↓wa_Nil, ↓wa_Cons, ↓wTup', ↓wLst', ↓wLstM', ↓w_Dct, ↓w_DctM, ↓w_B, ↓w_Call, ↓wMt', ↓pl_nil, ↓pl_cons, ↓wc_P, ↓wc_M, ↓wSl', ↓wo_No, ↓woS', ↓wRlv, ↓wRlm, ↓ws_Nil, ↓ws_Cons, ↓then_nx, ↓then_rt, ↓ws_Asg, ↓wg_Nm, ↓wg_Tp, ↓wgs_Nil, ↓wgs_Cons, ↓wgSb', ↓ws_Par, ↓aug0, ↓aug1, ↓aug2, ↓aug3, ↓aug4, ↓aug5, ↓aug6, ↓aug7, ↓aug8, ↓aug9, ↓aug10, ↓aug11, ↓aug12, ↓aug13, ↓aug14, ↓aug15, ↓aug16, ↓aug17, ↓wAugS', ↓ws_Ret, ↓ws_RetT, ↓ws_Drop, ↓ws_For, ↓wSq', ↓wRg', ↓rg1, ↓rg2, ↓rg3, ↓rl1, ↓rl2, ↓rl3, ↓wEn', ↓enV, ↓wZp', ↓zpVV, ↓zpVB, ↓g_add, ↓g_addL, ↓g_addT, ↓g_iadd, ↓g_sub, ↓g_mul, ↓g_mulL, ↓g_fdiv, ↓g_mod, ↓g_pow, ↓g_lt, ↓g_le, ↓g_gt, ↓g_ge, ↓g_eqI, ↓g_neI, ↓g_is, ↓g_isnt, ↓g_ixT, ↓g_ixL, ↓g_ixD, ↓gl_abs, ↓gl_max, ↓gl_min, ↓gl_int, ↓gl_intB, ↓gl_gcd, ↓gl_lenL, ↓gl_lenT, ↓gl_tupL, ↓gl_tupT, ↓gl_lstL, ↓gl_lstT, ↓gl_rep, ↓gl_sortD, ↓gl_sortL, ↓ngI, ↓slL, ↓slT, ↓slS, ↓bo, ↓io, ↓av0, ↓av1, ↓itL, ↓itT, ↓it0, ↓it1, ↓it2, ↓itB, ↓rtB, ↓rt_v, ↓g_ninI, ↓g_inI, ↓w_Lc, ↓w_LcM, ↓turn_nx, wipeL_cons, wipeL_nil, ↓sw0, ↓sw1, ↓sw2, ↓gix2, ↓app0, ↓app1, ↓app2, ↓appB, ↓isL0, ↓isL1, ↓isL2, ↓isLB, ↓isLv, ↓at_head, ↓v0, ↓v1, ↓v2, ↓v3, ↓v4, ↓v5, ↓v6, ↓v7, ↓v8, ↓v9, ↓v10, ↓v11, ↓v12, ↓v13, ↓v14, ↓v15, ↓v16, ↓v17, ↓t0, ↓t1, ↓t2, ↓t3, ↓t4, ↓t5, ↓t6, ↓t7, ↓t8, ↓setAll0, ↓setAll1, List.set_cons_zero, List.set_cons_succ, decide_eq_true_eq, Bool.not_eq_true', decide_eq_false_iff_not]
    exact ⟨_, rfl, trivial, cs ++ [_], by rw [List.map_append]; rfl, by simp [hi]⟩
  · rintro acc S' ⟨rfl, cs, rfl, hi⟩
    refine ⟨ok_nil _, ?_⟩
    rw [List.length_map] at hi
    try (simp only [↓w_c, ↓w_e2, ↓we1', ↓p_v, ↓pr0, ↓pr1, ↓pr2, ↓pr3, ↓prA, ↓prB, ↓poL, ↓poD, ↓wB', ↓wt_N, ↓wt_An, ↓wt_Or, ↓wt_Ye, ↓w_Bo, ↓w_An, ↓w_Or, ↓w_If, ↓ws_If, ↓wa_Nil, ↓wa_Cons, ↓wTup', ↓wLst', ↓wLstM', ↓w_Dct, ↓w_DctM, ↓w_B, ↓w_Call, ↓wMt', ↓pl_nil, ↓pl_cons, ↓wc_P, ↓wc_M, ↓wSl', ↓wo_No, ↓woS', ↓wRlv, ↓wRlm, ↓ws_Nil, ↓ws_Cons, ↓then_nx, ↓then_rt, ↓ws_Asg, ↓wg_Nm, ↓wg_Tp, ↓wgs_Nil, ↓wgs_Cons, ↓wgSb', ↓ws_Par, ↓aug0, ↓aug1, ↓aug2, ↓aug3, ↓aug4, ↓aug5, ↓aug6, ↓aug7, ↓aug8, ↓aug9, ↓aug10, ↓aug11, ↓aug12, ↓aug13, ↓aug14, ↓aug15, ↓aug16, ↓aug17, ↓wAugS', ↓ws_Ret, ↓ws_RetT, ↓ws_Drop, ↓ws_For, ↓wSq', ↓wRg', ↓rg1, ↓rg2, ↓rg3, ↓rl1, ↓rl2, ↓rl3, ↓wEn', ↓enV, ↓wZp', ↓zpVV, ↓zpVB, ↓g_add, ↓g_addL, ↓g_addT, ↓g_iadd, ↓g_sub, ↓g_mul, ↓g_mulL, ↓g_fdiv, ↓g_mod, ↓g_pow, ↓g_lt, ↓g_le, ↓g_gt, ↓g_ge, ↓g_eqI, ↓g_neI, ↓g_is, ↓g_isnt, ↓g_ixT, ↓g_ixL, ↓g_ixD, ↓gl_abs, ↓gl_max, ↓gl_min, ↓gl_int, ↓gl_intB, ↓gl_gcd, ↓gl_lenL, ↓gl_lenT, ↓gl_tupL, ↓gl_tupT, ↓gl_lstL, ↓gl_lstT, ↓gl_rep, ↓gl_sortD, ↓gl_sortL, ↓ngI, ↓slL, ↓slT, ↓slS, ↓bo, ↓io, ↓av0, ↓av1, ↓itL, ↓itT, ↓it0, ↓it1, ↓it2, ↓itB, ↓rtB, ↓rt_v, ↓g_ninI, ↓g_inI, ↓w_Lc, ↓w_LcM, ↓turn_nx, wipeL_cons, wipeL_nil, ↓sw0, ↓sw1, ↓sw2, ↓gix2, ↓app0, ↓app1, ↓app2, ↓appB, ↓isL0, ↓isL1, ↓isL2, ↓isLB, ↓isLv, ↓at_head, ↓v0, ↓v1, ↓v2, ↓v3, ↓v4, ↓v5, ↓v6, ↓v7, ↓v8, ↓v9, ↓v10, ↓v11, ↓v12, ↓v13, ↓v14, ↓v15, ↓v16, ↓v17, ↓t0, ↓t1, ↓t2, ↓t3, ↓t4, ↓t5, ↓t6, ↓t7, ↓t8, ↓setAll0, ↓setAll1, List.set_cons_zero, List.set_cons_succ, decide_eq_true_eq, Bool.not_eq_true', decide_eq_false_iff_not])
    refine ⟨rfl, _, rfl, k _ ⟨0, 1234567891, 0, cs, rfl, by decide, by decide, by decide, by decide, by omega⟩⟩
/-! ### what is drawn may be shown -/
theorem fr_show {f : Fr} (h : f.Ok) : showP f.v = true ∧ bulkP f.v = 2 ∧ dep f.v = 1 := by
  refine ⟨?_, rfl, rfl⟩
  show (showP (.int f.n) && (showP (.int f.d) && true)) = true
  have := h.d
  rw [showI (Nat.le_trans h.n (by decide)), showI (by omega)]
  rfl
/-- shown, of at most so much bulk and depth -/
def Sh (b d : Nat) (x : PV) : Prop := showP x = true ∧ bulkP x ≤ b ∧ dep x ≤ d
theorem Sh.int {i : Int} (h : i.natAbs ≤ 2 ^ 60) : Sh 0 0 (.int i) := ⟨showI h, Nat.le_refl _, Nat.le_refl _⟩
theorem Sh.tup {m b d : Nat} {xs : List PV} (h : ∀ x ∈ xs, Sh b d x) (hm : xs.length ≤ m) : Sh ((b + 1) * m) (d + 1) (.tup xs) := by
  refine ⟨?_, ?_, ?_⟩
  · show showL xs = true
    exact showL_of fun x hx => (h x hx).1
  · show bulkL xs ≤ _
    exact Nat.le_trans (bulkL_of b fun x hx => (h x hx).2.1) (Nat.mul_le_mul_left _ hm)
  · show depL xs + 1 ≤ _
    exact Nat.succ_le_succ (depL_of fun x hx => (h x hx).2.2)
theorem Sh.lst {m b d : Nat} {xs : List PV} (h : ∀ x ∈ xs, Sh b d x) (hm : xs.length ≤ m) : Sh ((b + 1) * m) (d + 1) (.lst xs) := by
  refine ⟨?_, ?_, ?_⟩
  · show showL xs = true
    exact showL_of fun x hx => (h x hx).1
  · show bulkL xs ≤ _
    exact Nat.le_trans (bulkL_of b fun x hx => (h x hx).2.1) (Nat.mul_le_mul_left _ hm)
  · show depL xs + 1 ≤ _
    exact Nat.succ_le_succ (depL_of fun x hx => (h x hx).2.2)
theorem Sh.mono {b d b' d' : Nat} {x : PV} (h : Sh b d x) (hb : b ≤ b') (hd : d ≤ d') : Sh b' d' x := ⟨h.1, Nat.le_trans h.2.1 hb, Nat.le_trans h.2.2 hd⟩
theorem Sh.dct {α : Type} {f : α → PV} {l : List (Int × α)} {m b d : Nat} (h : ∀ p ∈ l, p.1.natAbs ≤ 2 ^ 60 ∧ Sh b d (f p.2)) (hm : l.length ≤ m) : Sh (m + (b + 1) * m) (d + 1) (dI f l) := by
  have hk : ∀ x ∈ kI l, Sh 0 0 x := by
    intro x hx
    obtain ⟨p, hp, rfl⟩ := List.mem_map.mp hx
    exact Sh.int (h p hp).1
  have hv : ∀ x ∈ vI f l, Sh b d x := by
    intro x hx
    obtain ⟨p, hp, rfl⟩ := List.mem_map.mp hx
    exact (h p hp).2
  have lk : (kI l).length = l.length := by unfold kI; rw [List.length_map]
  have lv : (vI f l).length = l.length := by unfold vI; rw [List.length_map]
  refine ⟨?_, ?_, ?_⟩
  · show (decide ((kI l).length = (vI f l).length) && (showL (kI l) && showL (vI f l))) = true
    rw [showL_of fun x hx => (hk x hx).1, showL_of fun x hx => (hv x hx).1, decide_eq_true (by omega)]
    rfl
  · show bulkL (kI l) + bulkL (vI f l) ≤ _
    have h1 := bulkL_of 0 fun x hx => (hk x hx).2.1
    have h2 := bulkL_of b fun x hx => (hv x hx).2.1
    have h3 : (b + 1) * (vI f l).length ≤ (b + 1) * m := Nat.mul_le_mul_left _ (by omega)
    omega
  · show max (depL (kI l)) (depL (vI f l)) + 1 ≤ d + 1
    have h1 : depL (kI l) ≤ 0 := depL_of fun x hx => (hk x hx).2.2
    have h2 : depL (vI f l) ≤ d := depL_of fun x hx => (hv x hx).2.2
    omega
theorem Sh.okR {b d : Nat} {x : PV} (h : Sh b d x) (hb : b ≤ 8000) (hd : d ≤ 50) : okR x = true := by
  unfold Dn.okR
  rw [h.1, decide_eq_true (Nat.le_trans h.2.1 hb), decide_eq_true (Nat.le_trans h.2.2 hd)]
  rfl
end K61

namespace K61
open PySem PySem.Spec PyProof.Rows L2 Dn
theorem sh_ints {b : Nat} (is : List Int) (h : ∀ i ∈ is, i.natAbs ≤ 2 ^ 60) (hb : is.length ≤ b) : Sh b 1 (.tup (is.map PV.int)) := by
  have := Sh.tup (m := b) (b := 0) (d := 0) (xs := is.map PV.int) (fun x hx => by
    obtain ⟨i, hi, rfl⟩ := List.mem_map.mp hx
    exact Sh.int (h i hi)) (by rw [List.length_map]; exact hb)
  exact this.mono (by omega) (Nat.le_refl _)
theorem sh_fr {f : Fr} (h : f.Ok) : Sh 2 1 f.v := ⟨(fr_show h).1, Nat.le_of_eq (fr_show h).2.1, Nat.le_of_eq (fr_show h).2.2⟩
theorem sh_wd {w : Wd} (h : w.Ok) : Sh 6 2 w.v := by
  have := Sh.tup (m := 2) (b := 2) (d := 1) (xs := [w.x.v, w.y.v]) (fun x hx => by
    simp only [List.mem_cons, List.not_mem_nil, or_false] at hx
    rcases hx with rfl | rfl
    · exact sh_fr h.x
    · exact sh_fr h.y) (Nat.le_refl _)
  exact this
theorem sh_night {n : Night} {m k : Nat} (h : n.Ok m k) (hm : m ≤ 2) (hk : k ≤ 3) : Sh 600 5 n.v := by
  have a0 : Sh (3 + (2 + 1) * 3) (1 + 1) (dI Fr.v n.falls) := Sh.dct (fun p hp => ⟨by have := (h.falls.2 p hp).1; omega, sh_fr (h.falls.2 p hp).2⟩) (by have := h.falls.1; omega)
  have a1 : Sh (3 + (6 + 1) * 3) (2 + 1) (dI frs n.errs) := Sh.dct (fun p hp => ⟨by have := (h.errs.2.1 p hp).1; omega, Sh.tup (m := 2) (b := 2) (d := 1) (fun x hx => by
    obtain ⟨f, hf, rfl⟩ := List.mem_map.mp hx
    exact sh_fr ((h.errs.2.1 p hp).2.2 f hf).1) (by have := (h.errs.2.1 p hp).2.1; rw [List.length_map]; omega)⟩) (by have := h.errs.1; omega)
  have a2 : Sh (3 + (21 + 1) * 3) (3 + 1) (dI wds n.winds) := Sh.dct (fun p hp => ⟨by have := (h.winds.2 p hp).1; omega, Sh.tup (m := 3) (b := 6) (d := 2) (fun x hx => by
    obtain ⟨f, hf, rfl⟩ := List.mem_map.mp hx
    exact sh_wd ((h.winds.2 p hp).2.2 f hf)) (by have := (h.winds.2 p hp).2.1; rw [List.length_map]; omega)⟩) (by have := h.winds.1; omega)
  have a3 : Sh (3 + (0 + 1) * 3) (0 + 1) (dI PV.int n.lost) := Sh.dct (fun p hp => ⟨by have := (h.lost.2 p hp).1; omega, Sh.int (by have := (h.lost.2 p hp).2; omega)⟩) (by have := h.lost.1; omega)
  have := Sh.tup (m := 4) (b := 100) (d := 4) (xs := [dI Fr.v n.falls, dI frs n.errs, dI wds n.winds, dI PV.int n.lost]) (fun x hx => by
    simp only [List.mem_cons, List.not_mem_nil, or_false] at hx
    rcases hx with rfl | rfl | rfl | rfl
    · exact a0.mono (by decide) (by decide)
    · exact a1.mono (by decide) (by decide)
    · exact a2.mono (by decide) (by decide)
    · exact a3.mono (by decide) (by decide)) (Nat.le_refl _)
  exact ⟨this.1, Nat.le_trans this.2.1 (by decide), this.2.2⟩
theorem sh_lamp {l : Lamp} (h : l.Ok) : Sh 60 2 l.v := by
  have hx := h.x
  have hz := h.z
  have hs := h.s
  have ha : Sh 14 1 (.tup (l.sh.map PV.str)) := by
    have := h.sh
    simp only [shadeL, List.mem_cons, List.not_mem_nil, or_false] at this
    rcases this with e | e | e | e <;> rw [e] <;> exact ⟨by decide, by decide, by decide⟩
  exact Sh.tup (m := 4) (b := 14) (d := 1) (xs := [.int l.x, .int l.z, .tup (l.sh.map PV.str), .int l.s]) (fun x hx => by
    simp only [List.mem_cons, List.not_mem_nil, or_false] at hx
    rcases hx with rfl | rfl | rfl | rfl
    · exact (Sh.int (by omega)).mono (by decide) (by decide)
    · exact (Sh.int (by omega)).mono (by decide) (by decide)
    · exact ha
    · exact (Sh.int (by omega)).mono (by decide) (by decide)) (Nat.le_refl _)
theorem sh_scene {q : Scene} (h : q.Ok) : Sh 1101 4 q.v := by
  have ht := h.t
  have hh := h.h
  have hp : Sh 366 3 (.tup (q.p.map Lamp.v)) := Sh.tup (m := 6) (b := 60) (d := 2) (fun x hx => by
    obtain ⟨l, hl, rfl⟩ := List.mem_map.mp hx
    exact sh_lamp (h.p.1 l hl)) (by rw [List.length_map]; exact h.p.2)
  exact Sh.tup (m := 3) (b := 366) (d := 3) (xs := [.int q.t, .int q.h, .tup (q.p.map Lamp.v)]) (fun x hx => by
    simp only [List.mem_cons, List.not_mem_nil, or_false] at hx
    rcases hx with rfl | rfl | rfl
    · exact (Sh.int (by omega)).mono (by decide) (by decide)
    · exact (Sh.int (by omega)).mono (by decide) (by decide)
    · exact hp) (Nat.le_refl _)
theorem sh_all {b d : Nat} {x y z w : PV} (h1 : Sh b d x) (h2 : Sh b d y) (h3 : Sh b d z) {c : Nat} (h4 : Sh c d w) : showP (.tup [x, y, z, w]) = true ∧ bulkP (.tup [x, y, z, w]) ≤ 3 * b + c + 4 ∧ dep (.tup [x, y, z, w]) ≤ d + 1 := by
  refine ⟨?_, ?_, ?_⟩
  · show (showP x && (showP y && (showP z && (showP w && true)))) = true
    rw [h1.1, h2.1, h3.1, h4.1]
    rfl
  · show bulkP x + 1 + (bulkP y + 1 + (bulkP z + 1 + (bulkP w + 1 + 0))) ≤ _
    have := h1.2.1
    have := h2.2.1
    have := h3.2.1
    have := h4.2.1
    omega
  · show max (dep x) (max (dep y) (max (dep z) (max (dep w) 0))) + 1 ≤ _
    have := h1.2.2
    have := h2.2.2
    have := h3.2.2
    have := h4.2.2
    omega
theorem sh_show {s : Show} (h : s.Ok) : Sh 2300 6 s.v := by
  have hb := h.b
  have hb' := hb.sp
  have hb1 := hb.nr
  have hb2 := hb.wd
  have hb3 := hb.ck
  have hb4 := hb.fl
  have hb5 := hb.wy
  have hb6 := hb.g
  have hb7 := hb.h
  have hb8 := hb.d
  have h0 := h.c0
  have h1 := h.c1
  have h2 := h.c2
  have a0 : Sh 9 1 s.b.v := sh_ints [s.b.sp, s.b.nr, s.b.wd, s.b.ck, s.b.fl, s.b.wy, s.b.g, s.b.h, s.b.d] (fun i hi => by
    simp only [List.mem_cons, List.not_mem_nil, or_false] at hi
    omega) (Nat.le_refl _)
  have a1 : Sh 9 2 (.tup (s.pads.map padV)) := Sh.tup (m := 3) (b := 2) (d := 1) (fun x hx => by
    obtain ⟨p, hp, rfl⟩ := List.mem_map.mp hx
    have := h.pads.2 p hp
    exact sh_ints [p.1, p.2] (fun i hi => by
      simp only [List.mem_cons, List.not_mem_nil, or_false] at hi
      omega) (Nat.le_refl _)) (by rw [List.length_map]; exact h.pads.1.2)
  have a2 : Sh 3 1 (.tup [.int s.c0, .int s.c1, .int s.c2]) := sh_ints [s.c0, s.c1, s.c2] (fun i hi => by
    simp only [List.mem_cons, List.not_mem_nil, or_false] at hi
    omega) (Nat.le_refl _)
  have a3 : Sh 2204 5 (.tup (s.sc.map Scene.v)) := Sh.tup (m := 2) (b := 1101) (d := 4) (fun x hx => by
    obtain ⟨q, hq, rfl⟩ := List.mem_map.mp hx
    exact sh_scene (h.sc.2 q hq)) (by rw [List.length_map]; exact h.sc.1.2)
  have := sh_all (b := 9) (d := 5) (a0.mono (by decide) (by decide)) (a1.mono (by decide) (by decide)) (a2.mono (by decide) (by decide)) a3
  exact ⟨this.1, Nat.le_trans this.2.1 (by decide), this.2.2⟩
theorem sh_both {s : Show} {n : Night} (h : s.Ok) (hn : n.Ok s.sc.length s.pads.length) : okR (.lst [s.v, n.v]) = true := by
  have := Sh.lst (m := 2) (b := 2300) (d := 6) (xs := [s.v, n.v]) (fun x hx => by
    simp only [List.mem_cons, List.not_mem_nil, or_false] at hx
    rcases hx with rfl | rfl
    · exact sh_show h
    · exact (sh_night hn h.sc.1.2 h.pads.1.2).mono (by decide) (by decide)) (Nat.le_refl _)
  exact this.okR (by decide) (by decide)
theorem fall_all {s : Show} {n : Night} {c : Nat} (hs : s.Ok) (hn : n.Ok s.sc.length s.pads.length) (hc : c < s.pads.length) : leastP (fallL s n c) = .non ∨ ∃ f : Fr, f.Ok ∧ leastP (fallL s n c) = f.v := by
  have hall : ∀ f ∈ fallL s n c, f.Ok := by
    intro f hf
    unfold fallL at hf
    rcases List.mem_append.mp hf with hf | hf
    · cases hk : atK (c : Int) n.falls with
      | none => rw [hk] at hf; simp at hf
      | some g =>
        rw [hk] at hf
        have e : f = g := by simpa using hf
        rw [e]
        exact (hn.falls.2 _ (atK_mem hk)).2
    · rcases lost_cases (s := s) hn hc with ⟨_, e2⟩ | ⟨i, fs, t, g, e1, e2, e3, e4, ⟨hg, hg3⟩, ht, e5⟩
      · rw [e2] at hf
        simp at hf
      · rw [e5] at hf
        have e : f = Fr.sum ⟨t.l - s.b.lag, 1⟩ g := by simpa using hf
        rw [e]
        exact sum_ok2 (leave_ok hs ht).1 hg hg3
  generalize fallL s n c = L at hall
  rcases L with _ | ⟨a, _ | ⟨b, L⟩⟩
  · exact .inl rfl
  · exact .inr ⟨a, hall a (by simp), rfl⟩
  · refine .inr ⟨if b.lt a = true then b else a, ?_, ?_⟩
    · split
      · exact hall b (by simp)
      · exact hall a (by simp)
    · show (if b.lt a = true then b.v else a.v) = _
      split <;> rfl
theorem due_facts {s : Show} {n : Night} (hs : s.Ok) (hn : n.Ok s.sc.length s.pads.length) : dataOk (.lst (dueL s n)) = true ∧ okR (.lst (dueL s n)) = true := by
  have hm : ∀ x ∈ dueL s n, x = .non ∨ ∃ f : Fr, f.Ok ∧ x = f.v := by
    intro x hx
    obtain ⟨y, hy, rfl⟩ := List.mem_map.mp hx
    obtain ⟨m, hm⟩ := List.getElem?_of_mem hy
    obtain ⟨hlt, rfl⟩ := rngV_get hm
    rw [Int.zero_add]
    exact fall_all hs hn hlt
  constructor
  · unfold dataOk
    rw [Bool.and_eq_true, decide_eq_true_eq]
    constructor
    · show plainL (dueL s n) = true
      refine plainL_of fun x hx => ?_
      rcases hm x hx with rfl | ⟨f, _, rfl⟩ <;> rfl
    · show depL (dueL s n) + 1 ≤ 50
      have : depL (dueL s n) ≤ 1 := depL_of fun x hx => by
        rcases hm x hx with rfl | ⟨f, _, rfl⟩
        · exact Nat.zero_le _
        · exact Nat.le_refl _
      omega
  · have := Sh.lst (m := 3) (b := 2) (d := 1) (xs := dueL s n) (fun x hx => by
      rcases hm x hx with rfl | ⟨f, hf, rfl⟩
      · exact ⟨rfl, Nat.zero_le _, Nat.zero_le _⟩
      · exact sh_fr hf) (by unfold dueL; rw [List.length_map, rngV_length]; exact hs.pads.1.2)
    exact this.okR (by decide) (by decide)
theorem fell_facts {s : Show} {n : Night} (hs : s.Ok) : dataOk (.lst [.tup (fellL s n), .tup (fellL s n)]) = true ∧ okR (.lst [.tup (fellL s n), .tup (fellL s n)]) = true := by
  have hp := hs.pads.1
  have hm : ∀ x ∈ fellL s n, ∃ i : Int, i.natAbs ≤ 2 ^ 60 ∧ x = .int i := by
    intro x hx
    have hx := (List.mem_filter.mp hx).1
    obtain ⟨m, hm⟩ := List.getElem?_of_mem hx
    obtain ⟨hlt, rfl⟩ := rngV_get hm
    exact ⟨_, by omega, rfl⟩
  have hl : (fellL s n).length ≤ 3 := by
    have := List.length_filter_le (fun x => !Dn.isNon (dueF s n x)) (rngV 0 s.pads.length)
    rw [rngV_length] at this
    exact Nat.le_trans this hp.2
  have h1 : Sh 3 1 (.tup (fellL s n)) := Sh.tup (m := 3) (b := 0) (d := 0) (fun x hx => by
    obtain ⟨i, hi, rfl⟩ := hm x hx
    exact Sh.int hi) hl
  have hpl : plainL (fellL s n) = true := plainL_of fun x hx => by
    obtain ⟨i, hi, rfl⟩ := hm x hx
    rfl
  constructor
  · unfold dataOk
    rw [Bool.and_eq_true, decide_eq_true_eq]
    constructor
    · show (plainL (fellL s n) && (plainL (fellL s n) && true)) = true
      rw [hpl]
      rfl
    · show max (dep (.tup (fellL s n))) (max (dep (.tup (fellL s n))) 0) + 1 ≤ 50
      have := h1.2.2
      omega
  · have := Sh.lst (m := 2) (b := 3) (d := 1) (xs := [.tup (fellL s n), .tup (fellL s n)]) (fun x hx => by
      simp only [List.mem_cons, List.not_mem_nil, or_false, or_self] at hx
      rw [hx]
      exact h1) (Nat.le_refl _)
    exact this.okR (by decide) (by decide)
end K61

namespace K61
open PySem PySem.Spec PyProof.Rows L2 Dn
theorem due_eq (s : Show) (n : Night) : ((rngV 0 s.pads.length).filter fun _ => true).map (dueF s n) = dueL s n := by
  rw [List.filter_eq_self.mpr (by simp)]
  rfl
theorem fell_take {s : Show} {n : Night} {i : Nat} (h : i < s.pads.length) : ((rngV 0 s.pads.length).take (i + 1)).filter (fun x => !Dn.isNon (dueF s n x)) = ((rngV 0 s.pads.length).take i).filter (fun x => !Dn.isNon (dueF s n x)) ++ (if Dn.isNon (dueF s n (.int (i : Int))) = false then [.int (i : Int)] else []) := by
  have e : (rngV 0 s.pads.length)[i]? = some (.int (i : Int)) := by
    unfold rngV
    rw [List.getElem?_map, List.getElem?_range h]
    simp
  rw [take_snoc e, List.filter_append]
  congr 1
  cases hz : Dn.isNon (dueF s n (.int (i : Int))) <;> simp [hz]
theorem mean (ns : List Int) (h : ns.length ≤ 63) : WC c_law [.v (.scr ns)] [] fun x _ => x = .v (.bl true) := by
  refine wc_d rfl ?_
  unfold m_law d_law_1 d_law_2
  show W _ [some (.v (.scr ns)), none, none, none, none, none, none, none, none, none, none, none] _ _
  simp only [↓w_c, ↓w_e2, ↓we1', ↓p_v, ↓pr0, ↓pr1, ↓pr2, ↓pr3, ↓prA, ↓prB, ↓poL, ↓poD, ↓wB', ↓wt_N, ↓wt_An, ↓wt_Or, ↓wt_Ye, ↓w_Bo, ↓w_An, ↓w_Or, ↓w_If, ↓ws_If, ↓wa_Nil, ↓wa_Cons, ↓wTup', ↓wLst', ↓wLstM', ↓w_Dct, ↓w_DctM, ↓w_B, ↓w_Call, ↓wMt', ↓pl_nil, ↓pl_cons, ↓wc_P, ↓wc_M, ↓wSl', ↓wo_No, ↓woS', ↓wRlv, ↓wRlm, ↓ws_Nil, ↓ws_Cons, ↓then_nx, ↓then_rt, ↓ws_Asg, ↓wg_Nm, ↓wg_Tp, ↓wgs_Nil, ↓wgs_Cons, ↓wgSb', ↓ws_Par, ↓aug0, ↓aug1, ↓aug2, ↓aug3, ↓aug4, ↓aug5, ↓aug6, ↓aug7, ↓aug8, ↓aug9, ↓aug10, ↓aug11, ↓aug12, ↓aug13, ↓aug14, ↓aug15, ↓aug16, ↓aug17, ↓wAugS', ↓ws_Ret, ↓ws_RetT, ↓ws_Drop, ↓ws_For, ↓wSq', ↓wRg', ↓rg1, ↓rg2, ↓rg3, ↓rl1, ↓rl2, ↓rl3, ↓wEn', ↓enV, ↓wZp', ↓zpVV, ↓zpVB, ↓g_add, ↓g_addL, ↓g_addT, ↓g_iadd, ↓g_sub, ↓g_mul, ↓g_mulL, ↓g_fdiv, ↓g_mod, ↓g_pow, ↓g_lt, ↓g_le, ↓g_gt, ↓g_ge, ↓g_eqI, ↓g_neI, ↓g_is, ↓g_isnt, ↓g_ixT, ↓g_ixL, ↓g_ixD, ↓gl_abs, ↓gl_max, ↓gl_min, ↓gl_int, ↓gl_intB, ↓gl_gcd, ↓gl_lenL, ↓gl_lenT, ↓gl_tupL, ↓gl_tupT, ↓gl_lstL, ↓gl_lstT, ↓gl_rep, ↓gl_sortD, ↓gl_sortL, ↓ngI, ↓slL, ↓slT, ↓slS, ↓bo, ↓io, ↓av0, ↓av1, ↓itL, ↓itT, ↓it0, ↓it1, ↓it2, ↓itB, ↓rtB, ↓rt_v, ↓g_ninI, ↓g_inI, ↓w_Lc, ↓w_LcM, ↓turn_nx, wipeL_cons, wipeL_nil, ↓sw0, ↓sw1, ↓sw2, ↓gix2, ↓app0, ↓app1, ↓app2, ↓appB, ↓isL0, ↓isL1, ↓isL2, ↓isLB, ↓isLv, ↓at_head, ↓v0, ↓v1, ↓v2, ↓v3, ↓v4, ↓v5, ↓v6, ↓v7, ↓v8, ↓v9, ↓v10, ↓v11, ↓v12, ↓v13, ↓v14, ↓v15, ↓v16, ↓v17, ↓t0, ↓t1, ↓t2, ↓t3, ↓t4, ↓t5, ↓t6, ↓t7, ↓t8, ↓setAll0, ↓setAll1, List.set_cons_zero, List.set_cons_succ, decide_eq_true_eq, Bool.not_eq_true', decide_eq_false_iff_not]
  refine ⟨rfl, w_bag h fun o hB => ?_⟩
  try (simp only [↓w_c, ↓w_e2, ↓we1', ↓p_v, ↓pr0, ↓pr1, ↓pr2, ↓pr3, ↓prA, ↓prB, ↓poL, ↓poD, ↓wB', ↓wt_N, ↓wt_An, ↓wt_Or, ↓wt_Ye, ↓w_Bo, ↓w_An, ↓w_Or, ↓w_If, ↓ws_If, ↓wa_Nil, ↓wa_Cons, ↓wTup', ↓wLst', ↓wLstM', ↓w_Dct, ↓w_DctM, ↓w_B, ↓w_Call, ↓wMt', ↓pl_nil, ↓pl_cons, ↓wc_P, ↓wc_M, ↓wSl', ↓wo_No, ↓woS', ↓wRlv, ↓wRlm, ↓ws_Nil, ↓ws_Cons, ↓then_nx, ↓then_rt, ↓ws_Asg, ↓wg_Nm, ↓wg_Tp, ↓wgs_Nil, ↓wgs_Cons, ↓wgSb', ↓ws_Par, ↓aug0, ↓aug1, ↓aug2, ↓aug3, ↓aug4, ↓aug5, ↓aug6, ↓aug7, ↓aug8, ↓aug9, ↓aug10, ↓aug11, ↓aug12, ↓aug13, ↓aug14, ↓aug15, ↓aug16, ↓aug17, ↓wAugS', ↓ws_Ret, ↓ws_RetT, ↓ws_Drop, ↓ws_For, ↓wSq', ↓wRg', ↓rg1, ↓rg2, ↓rg3, ↓rl1, ↓rl2, ↓rl3, ↓wEn', ↓enV, ↓wZp', ↓zpVV, ↓zpVB, ↓g_add, ↓g_addL, ↓g_addT, ↓g_iadd, ↓g_sub, ↓g_mul, ↓g_mulL, ↓g_fdiv, ↓g_mod, ↓g_pow, ↓g_lt, ↓g_le, ↓g_gt, ↓g_ge, ↓g_eqI, ↓g_neI, ↓g_is, ↓g_isnt, ↓g_ixT, ↓g_ixL, ↓g_ixD, ↓gl_abs, ↓gl_max, ↓gl_min, ↓gl_int, ↓gl_intB, ↓gl_gcd, ↓gl_lenL, ↓gl_lenT, ↓gl_tupL, ↓gl_tupT, ↓gl_lstL, ↓gl_lstT, ↓gl_rep, ↓gl_sortD, ↓gl_sortL, ↓ngI, ↓slL, ↓slT, ↓slS, ↓bo, ↓io, ↓av0, ↓av1, ↓itL, ↓itT, ↓it0, ↓it1, ↓it2, ↓itB, ↓rtB, ↓rt_v, ↓g_ninI, ↓g_inI, ↓w_Lc, ↓w_LcM, ↓turn_nx, wipeL_cons, wipeL_nil, ↓sw0, ↓sw1, ↓sw2, ↓gix2, ↓app0, ↓app1, ↓app2, ↓appB, ↓isL0, ↓isL1, ↓isL2, ↓isLB, ↓isLv, ↓at_head, ↓v0, ↓v1, ↓v2, ↓v3, ↓v4, ↓v5, ↓v6, ↓v7, ↓v8, ↓v9, ↓v10, ↓v11, ↓v12, ↓v13, ↓v14, ↓v15, ↓v16, ↓v17, ↓t0, ↓t1, ↓t2, ↓t3, ↓t4, ↓t5, ↓t6, ↓t7, ↓t8, ↓setAll0, ↓setAll1, List.set_cons_zero, List.set_cons_succ, decide_eq_true_eq, Bool.not_eq_true', decide_eq_false_iff_not])
  refine ⟨rfl, ?_⟩
  refine wf_inv (fun i r S' => ∃ (o' : SO) (a b c d e f g h i j : Option RV), BagO o' ∧ S' = [o'] ∧ r = [some (.v (.scr ns)), some (.ref 0), a, b, c, d, e, f, g, h, i, j]) ⟨o, _, _, _, _, _, _, _, _, _, _, hB, rfl, rfl⟩ ?_ ?_
  · rintro i x r S' hx ⟨o1, a, b, c, d, e, f, g, h, i', j, hB1, rfl, rfl⟩
    refine ⟨ok_nil _, ?_⟩
    unfold b_law_1 b_law_1_1
    simp only [↓w_c, ↓w_e2, ↓we1', ↓p_v, ↓pr0, ↓pr1, ↓pr2, ↓pr3, ↓prA, ↓prB, ↓poL, ↓poD, ↓wB', ↓wt_N, ↓wt_An, ↓wt_Or, ↓wt_Ye, ↓w_Bo, ↓w_An, ↓w_Or, ↓w_If, ↓ws_If, ↓wa_Nil, ↓wa_Cons, ↓wTup', ↓wLst', ↓wLstM', ↓w_Dct, ↓w_DctM, ↓w_B, ↓w_Call, ↓wMt', ↓pl_nil, ↓pl_cons, ↓wc_P, ↓wc_M, ↓wSl', ↓wo_No, ↓woS', ↓wRlv, ↓wRlm, ↓ws_Nil, ↓ws_Cons, ↓then_nx, ↓then_rt, ↓ws_Asg, ↓wg_Nm, ↓wg_Tp, ↓wgs_Nil, ↓wgs_Cons, ↓wgSb', ↓ws_Par, ↓aug0, ↓aug1, ↓aug2, ↓aug3, ↓aug4, ↓aug5, ↓aug6, ↓aug7, ↓aug8, ↓aug9, ↓aug10, ↓aug11, ↓aug12, ↓aug13, ↓aug14, ↓aug15, ↓aug16, ↓aug17, ↓wAugS', ↓ws_Ret, ↓ws_RetT, ↓ws_Drop, ↓ws_For, ↓wSq', ↓wRg', ↓rg1, ↓rg2, ↓rg3, ↓rl1, ↓rl2, ↓rl3, ↓wEn', ↓enV, ↓wZp', ↓zpVV, ↓zpVB, ↓g_add, ↓g_addL, ↓g_addT, ↓g_iadd, ↓g_sub, ↓g_mul, ↓g_mulL, ↓g_fdiv, ↓g_mod, ↓g_pow, ↓g_lt, ↓g_le, ↓g_gt, ↓g_ge, ↓g_eqI, ↓g_neI, ↓g_is, ↓g_isnt, ↓g_ixT, ↓g_ixL, ↓g_ixD, ↓gl_abs, ↓gl_max, ↓gl_min, ↓gl_int, ↓gl_intB, ↓gl_gcd, ↓gl_lenL, ↓gl_lenT, ↓gl_tupL, ↓gl_tupT, ↓gl_lstL, ↓gl_lstT, ↓gl_rep, ↓gl_sortD, ↓gl_sortL, ↓ngI, ↓slL, ↓slT, ↓slS, ↓bo, ↓io, ↓av0, ↓av1, ↓itL, ↓itT, ↓it0, ↓it1, ↓it2, ↓itB, ↓rtB, ↓rt_v, ↓g_ninI, ↓g_inI, ↓w_Lc, ↓w_LcM, ↓turn_nx, wipeL_cons, wipeL_nil, ↓sw0, ↓sw1, ↓sw2, ↓gix2, ↓app0, ↓app1, ↓app2, ↓appB, ↓isL0, ↓isL1, ↓isL2, ↓isLB, ↓isLv, ↓at_head, ↓v0, ↓v1, ↓v2, ↓v3, ↓v4, ↓v5, ↓v6, ↓v7, ↓v8, ↓v9, ↓v10, ↓v11, ↓v12, ↓v13, ↓v14, ↓v15, ↓v16, ↓v17, ↓t0, ↓t1, ↓t2, ↓t3, ↓t4, ↓t5, ↓t6, ↓t7, ↓t8, ↓setAll0, ↓setAll1, List.set_cons_zero, List.set_cons_succ, decide_eq_true_eq, Bool.not_eq_true', decide_eq_false_iff_not]
    refine ⟨rfl, w_show hB1 fun s o2 hs hB2 => ?_⟩
    try (simp only [↓w_c, ↓w_e2, ↓we1', ↓p_v, ↓pr0, ↓pr1, ↓pr2, ↓pr3, ↓prA, ↓prB, ↓poL, ↓poD, ↓wB', ↓wt_N, ↓wt_An, ↓wt_Or, ↓wt_Ye, ↓w_Bo, ↓w_An, ↓w_Or, ↓w_If, ↓ws_If, ↓wa_Nil, ↓wa_Cons, ↓wTup', ↓wLst', ↓wLstM', ↓w_Dct, ↓w_DctM, ↓w_B, ↓w_Call, ↓wMt', ↓pl_nil, ↓pl_cons, ↓wc_P, ↓wc_M, ↓wSl', ↓wo_No, ↓woS', ↓wRlv, ↓wRlm, ↓ws_Nil, ↓ws_Cons, ↓then_nx, ↓then_rt, ↓ws_Asg, ↓wg_Nm, ↓wg_Tp, ↓wgs_Nil, ↓wgs_Cons, ↓wgSb', ↓ws_Par, ↓aug0, ↓aug1, ↓aug2, ↓aug3, ↓aug4, ↓aug5, ↓aug6, ↓aug7, ↓aug8, ↓aug9, ↓aug10, ↓aug11, ↓aug12, ↓aug13, ↓aug14, ↓aug15, ↓aug16, ↓aug17, ↓wAugS', ↓ws_Ret, ↓ws_RetT, ↓ws_Drop, ↓ws_For, ↓wSq', ↓wRg', ↓rg1, ↓rg2, ↓rg3, ↓rl1, ↓rl2, ↓rl3, ↓wEn', ↓enV, ↓wZp', ↓zpVV, ↓zpVB, ↓g_add, ↓g_addL, ↓g_addT, ↓g_iadd, ↓g_sub, ↓g_mul, ↓g_mulL, ↓g_fdiv, ↓g_mod, ↓g_pow, ↓g_lt, ↓g_le, ↓g_gt, ↓g_ge, ↓g_eqI, ↓g_neI, ↓g_is, ↓g_isnt, ↓g_ixT, ↓g_ixL, ↓g_ixD, ↓gl_abs, ↓gl_max, ↓gl_min, ↓gl_int, ↓gl_intB, ↓gl_gcd, ↓gl_lenL, ↓gl_lenT, ↓gl_tupL, ↓gl_tupT, ↓gl_lstL, ↓gl_lstT, ↓gl_rep, ↓gl_sortD, ↓gl_sortL, ↓ngI, ↓slL, ↓slT, ↓slS, ↓bo, ↓io, ↓av0, ↓av1, ↓itL, ↓itT, ↓it0, ↓it1, ↓it2, ↓itB, ↓rtB, ↓rt_v, ↓g_ninI, ↓g_inI, ↓w_Lc, ↓w_LcM, ↓turn_nx, wipeL_cons, wipeL_nil, ↓sw0, ↓sw1, ↓sw2, ↓gix2, ↓app0, ↓app1, ↓app2, ↓appB, ↓isL0, ↓isL1, ↓isL2, ↓isLB, ↓isLv, ↓at_head, ↓v0, ↓v1, ↓v2, ↓v3, ↓v4, ↓v5, ↓v6, ↓v7, ↓v8, ↓v9, ↓v10, ↓v11, ↓v12, ↓v13, ↓v14, ↓v15, ↓v16, ↓v17, ↓t0, ↓t1, ↓t2, ↓t3, ↓t4, ↓t5, ↓t6, ↓t7, ↓t8, ↓setAll0, ↓setAll1, List.set_cons_zero, List.set_cons_succ, decide_eq_true_eq, Bool.not_eq_true', decide_eq_false_iff_not])
    refine ⟨rfl, ?_⟩
    refine wf_inv (fun i r S' => ∃ (o' : SO) (a b c d e f g h i : Option RV), BagO o' ∧ S' = [o'] ∧ r = [some (.v (.scr ns)), some (.ref 0), a, some (.v s.v), b, c, d, e, f, g, h, i]) ⟨o2, _, _, _, _, _, _, _, _, _, hB2, rfl, rfl⟩ ?_ ?_
    · rintro i x r S' hx ⟨o1, a, b, c, d, e, f, g, h, j, hB1, rfl, rfl⟩
      refine ⟨ok_nil _, ?_⟩
      unfold b_law_2 b_law_2_1 b_law_2_2
      simp only [↓w_c, ↓w_e2, ↓we1', ↓p_v, ↓pr0, ↓pr1, ↓pr2, ↓pr3, ↓prA, ↓prB, ↓poL, ↓poD, ↓wB', ↓wt_N, ↓wt_An, ↓wt_Or, ↓wt_Ye, ↓w_Bo, ↓w_An, ↓w_Or, ↓w_If, ↓ws_If, ↓wa_Nil, ↓wa_Cons, ↓wTup', ↓wLst', ↓wLstM', ↓w_Dct, ↓w_DctM, ↓w_B, ↓w_Call, ↓wMt', ↓pl_nil, ↓pl_cons, ↓wc_P, ↓wc_M, ↓wSl', ↓wo_No, ↓woS', ↓wRlv, ↓wRlm, ↓ws_Nil, ↓ws_Cons, ↓then_nx, ↓then_rt, ↓ws_Asg, ↓wg_Nm, ↓wg_Tp, ↓wgs_Nil, ↓wgs_Cons, ↓wgSb', ↓ws_Par, ↓aug0, ↓aug1, ↓aug2, ↓aug3, ↓aug4, ↓aug5, ↓aug6, ↓aug7, ↓aug8, ↓aug9, ↓aug10, ↓aug11, ↓aug12, ↓aug13, ↓aug14, ↓aug15, ↓aug16, ↓aug17, ↓wAugS', ↓ws_Ret, ↓ws_RetT, ↓ws_Drop, ↓ws_For, ↓wSq', ↓wRg', ↓rg1, ↓rg2, ↓rg3, ↓rl1, ↓rl2, ↓rl3, ↓wEn', ↓enV, ↓wZp', ↓zpVV, ↓zpVB, ↓g_add, ↓g_addL, ↓g_addT, ↓g_iadd, ↓g_sub, ↓g_mul, ↓g_mulL, ↓g_fdiv, ↓g_mod, ↓g_pow, ↓g_lt, ↓g_le, ↓g_gt, ↓g_ge, ↓g_eqI, ↓g_neI, ↓g_is, ↓g_isnt, ↓g_ixT, ↓g_ixL, ↓g_ixD, ↓gl_abs, ↓gl_max, ↓gl_min, ↓gl_int, ↓gl_intB, ↓gl_gcd, ↓gl_lenL, ↓gl_lenT, ↓gl_tupL, ↓gl_tupT, ↓gl_lstL, ↓gl_lstT, ↓gl_rep, ↓gl_sortD, ↓gl_sortL, ↓ngI, ↓slL, ↓slT, ↓slS, ↓bo, ↓io, ↓av0, ↓av1, ↓itL, ↓itT, ↓it0, ↓it1, ↓it2, ↓itB, ↓rtB, ↓rt_v, ↓g_ninI, ↓g_inI, ↓w_Lc, ↓w_LcM, ↓turn_nx, wipeL_cons, wipeL_nil, ↓sw0, ↓sw1, ↓sw2, ↓gix2, ↓app0, ↓app1, ↓app2, ↓appB, ↓isL0, ↓isL1, ↓isL2, ↓isLB, ↓isLv, ↓at_head, ↓v0, ↓v1, ↓v2, ↓v3, ↓v4, ↓v5, ↓v6, ↓v7, ↓v8, ↓v9, ↓v10, ↓v11, ↓v12, ↓v13, ↓v14, ↓v15, ↓v16, ↓v17, ↓t0, ↓t1, ↓t2, ↓t3, ↓t4, ↓t5, ↓t6, ↓t7, ↓t8, ↓setAll0, ↓setAll1, List.set_cons_zero, List.set_cons_succ, decide_eq_true_eq, Bool.not_eq_true', decide_eq_false_iff_not]
      refine ⟨rfl, w_night hB1 hs fun n o3 hn hB3 => ?_⟩
      try (simp only [↓w_c, ↓w_e2, ↓we1', ↓p_v, ↓pr0, ↓pr1, ↓pr2, ↓pr3, ↓prA, ↓prB, ↓poL, ↓poD, ↓wB', ↓wt_N, ↓wt_An, ↓wt_Or, ↓wt_Ye, ↓w_Bo, ↓w_An, ↓w_Or, ↓w_If, ↓ws_If, ↓wa_Nil, ↓wa_Cons, ↓wTup', ↓wLst', ↓wLstM', ↓w_Dct, ↓w_DctM, ↓w_B, ↓w_Call, ↓wMt', ↓pl_nil, ↓pl_cons, ↓wc_P, ↓wc_M, ↓wSl', ↓wo_No, ↓woS', ↓wRlv, ↓wRlm, ↓ws_Nil, ↓ws_Cons, ↓then_nx, ↓then_rt, ↓ws_Asg, ↓wg_Nm, ↓wg_Tp, ↓wgs_Nil, ↓wgs_Cons, ↓wgSb', ↓ws_Par, ↓aug0, ↓aug1, ↓aug2, ↓aug3, ↓aug4, ↓aug5, ↓aug6, ↓aug7, ↓aug8, ↓aug9, ↓aug10, ↓aug11, ↓aug12, ↓aug13, ↓aug14, ↓aug15, ↓aug16, ↓aug17, ↓wAugS', ↓ws_Ret, ↓ws_RetT, ↓ws_Drop, ↓ws_For, ↓wSq', ↓wRg', ↓rg1, ↓rg2, ↓rg3, ↓rl1, ↓rl2, ↓rl3, ↓wEn', ↓enV, ↓wZp', ↓zpVV, ↓zpVB, ↓g_add, ↓g_addL, ↓g_addT, ↓g_iadd, ↓g_sub, ↓g_mul, ↓g_mulL, ↓g_fdiv, ↓g_mod, ↓g_pow, ↓g_lt, ↓g_le, ↓g_gt, ↓g_ge, ↓g_eqI, ↓g_neI, ↓g_is, ↓g_isnt, ↓g_ixT, ↓g_ixL, ↓g_ixD, ↓gl_abs, ↓gl_max, ↓gl_min, ↓gl_int, ↓gl_intB, ↓gl_gcd, ↓gl_lenL, ↓gl_lenT, ↓gl_tupL, ↓gl_tupT, ↓gl_lstL, ↓gl_lstT, ↓gl_rep, ↓gl_sortD, ↓gl_sortL, ↓ngI, ↓slL, ↓slT, ↓slS, ↓bo, ↓io, ↓av0, ↓av1, ↓itL, ↓itT, ↓it0, ↓it1, ↓it2, ↓itB, ↓rtB, ↓rt_v, ↓g_ninI, ↓g_inI, ↓w_Lc, ↓w_LcM, ↓turn_nx, wipeL_cons, wipeL_nil, ↓sw0, ↓sw1, ↓sw2, ↓gix2, ↓app0, ↓app1, ↓app2, ↓appB, ↓isL0, ↓isL1, ↓isL2, ↓isLB, ↓isLv, ↓at_head, ↓v0, ↓v1, ↓v2, ↓v3, ↓v4, ↓v5, ↓v6, ↓v7, ↓v8, ↓v9, ↓v10, ↓v11, ↓v12, ↓v13, ↓v14, ↓v15, ↓v16, ↓v17, ↓t0, ↓t1, ↓t2, ↓t3, ↓t4, ↓t5, ↓t6, ↓t7, ↓t8, ↓setAll0, ↓setAll1, List.set_cons_zero, List.set_cons_succ, decide_eq_true_eq, Bool.not_eq_true', decide_eq_false_iff_not, ↓sx1])
      have hp := hs.pads.1
      have hbig : big62 ↑(List.map padV s.pads).length = true := big_of (by omega) (by rw [List.length_map]; omega)
      rw [List.length_map, Int.toNat_natCast]
      rw [List.length_map] at hbig
      have hsm : smallL (rngV 0 s.pads.length).length = true := small_of.mpr (by rw [rngV_length]; omega)
      refine ⟨rfl, sh_both hs hn, hbig, hsm, ?_⟩
      refine wl_pure (fun _ => true) (dueF s n) (ok_nil _) ?_ ?_
      · intro y hy
        obtain ⟨m, hm⟩ := List.getElem?_of_mem hy
        obtain ⟨hlt, rfl⟩ := rngV_get hm
        rw [Int.zero_add]
        simp only [↓w_c, ↓w_e2, ↓we1', ↓p_v, ↓pr0, ↓pr1, ↓pr2, ↓pr3, ↓prA, ↓prB, ↓poL, ↓poD, ↓wB', ↓wt_N, ↓wt_An, ↓wt_Or, ↓wt_Ye, ↓w_Bo, ↓w_An, ↓w_Or, ↓w_If, ↓ws_If, ↓wa_Nil, ↓wa_Cons, ↓wTup', ↓wLst', ↓wLstM', ↓w_Dct, ↓w_DctM, ↓w_B, ↓w_Call, ↓wMt', ↓pl_nil, ↓pl_cons, ↓wc_P, ↓wc_M, ↓wSl', ↓wo_No, ↓woS', ↓wRlv, ↓wRlm, ↓ws_Nil, ↓ws_Cons, ↓then_nx, ↓then_rt, ↓ws_Asg, ↓wg_Nm, ↓wg_Tp, ↓wgs_Nil, ↓wgs_Cons, ↓wgSb', ↓ws_Par, ↓aug0, ↓aug1, ↓aug2, ↓aug3, ↓aug4, ↓aug5, ↓aug6, ↓aug7, ↓aug8, ↓aug9, ↓aug10, ↓aug11, ↓aug12, ↓aug13, ↓aug14, ↓aug15, ↓aug16, ↓aug17, ↓wAugS', ↓ws_Ret, ↓ws_RetT, ↓ws_Drop, ↓ws_For, ↓wSq', ↓wRg', ↓rg1, ↓rg2, ↓rg3, ↓rl1, ↓rl2, ↓rl3, ↓wEn', ↓enV, ↓wZp', ↓zpVV, ↓zpVB, ↓g_add, ↓g_addL, ↓g_addT, ↓g_iadd, ↓g_sub, ↓g_mul, ↓g_mulL, ↓g_fdiv, ↓g_mod, ↓g_pow, ↓g_lt, ↓g_le, ↓g_gt, ↓g_ge, ↓g_eqI, ↓g_neI, ↓g_is, ↓g_isnt, ↓g_ixT, ↓g_ixL, ↓g_ixD, ↓gl_abs, ↓gl_max, ↓gl_min, ↓gl_int, ↓gl_intB, ↓gl_gcd, ↓gl_lenL, ↓gl_lenT, ↓gl_tupL, ↓gl_tupT, ↓gl_lstL, ↓gl_lstT, ↓gl_rep, ↓gl_sortD, ↓gl_sortL, ↓ngI, ↓slL, ↓slT, ↓slS, ↓bo, ↓io, ↓av0, ↓av1, ↓itL, ↓itT, ↓it0, ↓it1, ↓it2, ↓itB, ↓rtB, ↓rt_v, ↓g_ninI, ↓g_inI, ↓w_Lc, ↓w_LcM, ↓turn_nx, wipeL_cons, wipeL_nil, ↓sw0, ↓sw1, ↓sw2, ↓gix2, ↓app0, ↓app1, ↓app2, ↓appB, ↓isL0, ↓isL1, ↓isL2, ↓isLB, ↓isLv, ↓at_head, ↓v0, ↓v1, ↓v2, ↓v3, ↓v4, ↓v5, ↓v6, ↓v7, ↓v8, ↓v9, ↓v10, ↓v11, ↓v12, ↓v13, ↓v14, ↓v15, ↓v16, ↓v17, ↓t0, ↓t1, ↓t2, ↓t3, ↓t4, ↓t5, ↓t6, ↓t7, ↓t8, ↓setAll0, ↓setAll1, List.set_cons_zero, List.set_cons_succ, decide_eq_true_eq, Bool.not_eq_true', decide_eq_false_iff_not]
        refine ⟨trivial, trivial, fun _ => ⟨rfl, w_fall hs hn hlt ?_⟩⟩
        exact ⟨rfl, rfl⟩
      rw [due_eq]
      refine ⟨⟨rfl, rfl⟩, hbig, hsm, ?_⟩
      refine wl_pure (fun _ => true) (dueF s n) (ok_nil _) ?_ ?_
      · intro y hy
        obtain ⟨m, hm⟩ := List.getElem?_of_mem hy
        obtain ⟨hlt, rfl⟩ := rngV_get hm
        rw [Int.zero_add]
        simp only [↓w_c, ↓w_e2, ↓we1', ↓p_v, ↓pr0, ↓pr1, ↓pr2, ↓pr3, ↓prA, ↓prB, ↓poL, ↓poD, ↓wB', ↓wt_N, ↓wt_An, ↓wt_Or, ↓wt_Ye, ↓w_Bo, ↓w_An, ↓w_Or, ↓w_If, ↓ws_If, ↓wa_Nil, ↓wa_Cons, ↓wTup', ↓wLst', ↓wLstM', ↓w_Dct, ↓w_DctM, ↓w_B, ↓w_Call, ↓wMt', ↓pl_nil, ↓pl_cons, ↓wc_P, ↓wc_M, ↓wSl', ↓wo_No, ↓woS', ↓wRlv, ↓wRlm, ↓ws_Nil, ↓ws_Cons, ↓then_nx, ↓then_rt, ↓ws_Asg, ↓wg_Nm, ↓wg_Tp, ↓wgs_Nil, ↓wgs_Cons, ↓wgSb', ↓ws_Par, ↓aug0, ↓aug1, ↓aug2, ↓aug3, ↓aug4, ↓aug5, ↓aug6, ↓aug7, ↓aug8, ↓aug9, ↓aug10, ↓aug11, ↓aug12, ↓aug13, ↓aug14, ↓aug15, ↓aug16, ↓aug17, ↓wAugS', ↓ws_Ret, ↓ws_RetT, ↓ws_Drop, ↓ws_For, ↓wSq', ↓wRg', ↓rg1, ↓rg2, ↓rg3, ↓rl1, ↓rl2, ↓rl3, ↓wEn', ↓enV, ↓wZp', ↓zpVV, ↓zpVB, ↓g_add, ↓g_addL, ↓g_addT, ↓g_iadd, ↓g_sub, ↓g_mul, ↓g_mulL, ↓g_fdiv, ↓g_mod, ↓g_pow, ↓g_lt, ↓g_le, ↓g_gt, ↓g_ge, ↓g_eqI, ↓g_neI, ↓g_is, ↓g_isnt, ↓g_ixT, ↓g_ixL, ↓g_ixD, ↓gl_abs, ↓gl_max, ↓gl_min, ↓gl_int, ↓gl_intB, ↓gl_gcd, ↓gl_lenL, ↓gl_lenT, ↓gl_tupL, ↓gl_tupT, ↓gl_lstL, ↓gl_lstT, ↓gl_rep, ↓gl_sortD, ↓gl_sortL, ↓ngI, ↓slL, ↓slT, ↓slS, ↓bo, ↓io, ↓av0, ↓av1, ↓itL, ↓itT, ↓it0, ↓it1, ↓it2, ↓itB, ↓rtB, ↓rt_v, ↓g_ninI, ↓g_inI, ↓w_Lc, ↓w_LcM, ↓turn_nx, wipeL_cons, wipeL_nil, ↓sw0, ↓sw1, ↓sw2, ↓gix2, ↓app0, ↓app1, ↓app2, ↓appB, ↓isL0, ↓isL1, ↓isL2, ↓isLB, ↓isLv, ↓at_head, ↓v0, ↓v1, ↓v2, ↓v3, ↓v4, ↓v5, ↓v6, ↓v7, ↓v8, ↓v9, ↓v10, ↓v11, ↓v12, ↓v13, ↓v14, ↓v15, ↓v16, ↓v17, ↓t0, ↓t1, ↓t2, ↓t3, ↓t4, ↓t5, ↓t6, ↓t7, ↓t8, ↓setAll0, ↓setAll1, List.set_cons_zero, List.set_cons_succ, decide_eq_true_eq, Bool.not_eq_true', decide_eq_false_iff_not]
        refine ⟨trivial, trivial, fun _ => ⟨rfl, w_fallof hs hn hlt ?_⟩⟩
        exact ⟨rfl, rfl⟩
      rw [due_eq]
      have hdl : (dueL s n).length = s.pads.length := by
        unfold dueL
        rw [List.length_map, rngV_length]
      have hdg : ∀ i, i < s.pads.length → (dueL s n)[i]? = some (dueF s n (.int (i : Int))) := by
        intro i hi
        unfold dueL rngV
        rw [List.getElem?_map, List.getElem?_map, List.getElem?_range hi]
        simp
      obtain ⟨hd1, hd2⟩ := due_facts hs hn
      obtain ⟨hf1, hf2⟩ := fell_facts (n := n) hs
      unfold b_law_2_3
      simp only [↓w_c, ↓w_e2, ↓we1', ↓p_v, ↓pr0, ↓pr1, ↓pr2, ↓pr3, ↓prA, ↓prB, ↓poL, ↓poD, ↓wB', ↓wt_N, ↓wt_An, ↓wt_Or, ↓wt_Ye, ↓w_Bo, ↓w_An, ↓w_Or, ↓w_If, ↓ws_If, ↓wa_Nil, ↓wa_Cons, ↓wTup', ↓wLst', ↓wLstM', ↓w_Dct, ↓w_DctM, ↓w_B, ↓w_Call, ↓wMt', ↓pl_nil, ↓pl_cons, ↓wc_P, ↓wc_M, ↓wSl', ↓wo_No, ↓woS', ↓wRlv, ↓wRlm, ↓ws_Nil, ↓ws_Cons, ↓then_nx, ↓then_rt, ↓ws_Asg, ↓wg_Nm, ↓wg_Tp, ↓wgs_Nil, ↓wgs_Cons, ↓wgSb', ↓ws_Par, ↓aug0, ↓aug1, ↓aug2, ↓aug3, ↓aug4, ↓aug5, ↓aug6, ↓aug7, ↓aug8, ↓aug9, ↓aug10, ↓aug11, ↓aug12, ↓aug13, ↓aug14, ↓aug15, ↓aug16, ↓aug17, ↓wAugS', ↓ws_Ret, ↓ws_RetT, ↓ws_Drop, ↓ws_For, ↓wSq', ↓wRg', ↓rg1, ↓rg2, ↓rg3, ↓rl1, ↓rl2, ↓rl3, ↓wEn', ↓enV, ↓wZp', ↓zpVV, ↓zpVB, ↓g_add, ↓g_addL, ↓g_addT, ↓g_iadd, ↓g_sub, ↓g_mul, ↓g_mulL, ↓g_fdiv, ↓g_mod, ↓g_pow, ↓g_lt, ↓g_le, ↓g_gt, ↓g_ge, ↓g_eqI, ↓g_neI, ↓g_is, ↓g_isnt, ↓g_ixT, ↓g_ixL, ↓g_ixD, ↓gl_abs, ↓gl_max, ↓gl_min, ↓gl_int, ↓gl_intB, ↓gl_gcd, ↓gl_lenL, ↓gl_lenT, ↓gl_tupL, ↓gl_tupT, ↓gl_lstL, ↓gl_lstT, ↓gl_rep, ↓gl_sortD, ↓gl_sortL, ↓ngI, ↓slL, ↓slT, ↓slS, ↓bo, ↓io, ↓av0, ↓av1, ↓itL, ↓itT, ↓it0, ↓it1, ↓it2, ↓itB, ↓rtB, ↓rt_v, ↓g_ninI, ↓g_inI, ↓w_Lc, ↓w_LcM, ↓turn_nx, wipeL_cons, wipeL_nil, ↓sw0, ↓sw1, ↓sw2, ↓gix2, ↓app0, ↓app1, ↓app2, ↓appB, ↓isL0, ↓isL1, ↓isL2, ↓isLB, ↓isLv, ↓at_head, ↓v0, ↓v1, ↓v2, ↓v3, ↓v4, ↓v5, ↓v6, ↓v7, ↓v8, ↓v9, ↓v10, ↓v11, ↓v12, ↓v13, ↓v14, ↓v15, ↓v16, ↓v17, ↓t0, ↓t1, ↓t2, ↓t3, ↓t4, ↓t5, ↓t6, ↓t7, ↓t8, ↓setAll0, ↓setAll1, List.set_cons_zero, List.set_cons_succ, decide_eq_true_eq, Bool.not_eq_true', decide_eq_false_iff_not]
      refine ⟨small_of.mpr (by rw [enumL_length]; omega), ?_⟩
      refine wl_inv (fun i acc S' => S' = [o3] ∧ i ≤ s.pads.length ∧ acc = ((rngV 0 s.pads.length).take i).filter fun x => !Dn.isNon (dueF s n x)) ⟨rfl, Nat.zero_le _, rfl⟩ ?_ ?_
      · rintro i y acc S' hy ⟨rfl, hi, rfl⟩
        refine ⟨ok_nil _, ?_⟩
        have hlt := (List.getElem?_eq_some_iff.mp hy).1
        rw [enumL_length, hdl] at hlt
        rw [enumL_get, hdg i hlt] at hy
        obtain rfl : PV.tup [.int ((0 + i : Nat) : Int), dueF s n (.int (i : Int))] = y := by simpa using hy
        rw [Nat.zero_add, fell_take hlt]
        generalize dueF s n (.int (i : Int)) = z
        simp only [↓w_c, ↓w_e2, ↓we1', ↓p_v, ↓pr0, ↓pr1, ↓pr2, ↓pr3, ↓prA, ↓prB, ↓poL, ↓poD, ↓wB', ↓wt_N, ↓wt_An, ↓wt_Or, ↓wt_Ye, ↓w_Bo, ↓w_An, ↓w_Or, ↓w_If, ↓ws_If, ↓wa_Nil, ↓wa_Cons, ↓wTup', ↓wLst', ↓wLstM', ↓w_Dct, ↓w_DctM, ↓w_B, ↓w_Call, ↓wMt', ↓pl_nil, ↓pl_cons, ↓wc_P, ↓wc_M, ↓wSl', ↓wo_No, ↓woS', ↓wRlv, ↓wRlm, ↓ws_Nil, ↓ws_Cons, ↓then_nx, ↓then_rt, ↓ws_Asg, ↓wg_Nm, ↓wg_Tp, ↓wgs_Nil, ↓wgs_Cons, ↓wgSb', ↓ws_Par, ↓aug0, ↓aug1, ↓aug2, ↓aug3, ↓aug4, ↓aug5, ↓aug6, ↓aug7, ↓aug8, ↓aug9, ↓aug10, ↓aug11, ↓aug12, ↓aug13, ↓aug14, ↓aug15, ↓aug16, ↓aug17, ↓wAugS', ↓ws_Ret, ↓ws_RetT, ↓ws_Drop, ↓ws_For, ↓wSq', ↓wRg', ↓rg1, ↓rg2, ↓rg3, ↓rl1, ↓rl2, ↓rl3, ↓wEn', ↓enV, ↓wZp', ↓zpVV, ↓zpVB, ↓g_add, ↓g_addL, ↓g_addT, ↓g_iadd, ↓g_sub, ↓g_mul, ↓g_mulL, ↓g_fdiv, ↓g_mod, ↓g_pow, ↓g_lt, ↓g_le, ↓g_gt, ↓g_ge, ↓g_eqI, ↓g_neI, ↓g_is, ↓g_isnt, ↓g_ixT, ↓g_ixL, ↓g_ixD, ↓gl_abs, ↓gl_max, ↓gl_min, ↓gl_int, ↓gl_intB, ↓gl_gcd, ↓gl_lenL, ↓gl_lenT, ↓gl_tupL, ↓gl_tupT, ↓gl_lstL, ↓gl_lstT, ↓gl_rep, ↓gl_sortD, ↓gl_sortL, ↓ngI, ↓slL, ↓slT, ↓slS, ↓bo, ↓io, ↓av0, ↓av1, ↓itL, ↓itT, ↓it0, ↓it1, ↓it2, ↓itB, ↓rtB, ↓rt_v, ↓g_ninI, ↓g_inI, ↓w_Lc, ↓w_LcM, ↓turn_nx, wipeL_cons, wipeL_nil, ↓sw0, ↓sw1, ↓sw2, ↓gix2, ↓app0, ↓app1, ↓app2, ↓appB, ↓isL0, ↓isL1, ↓isL2, ↓isLB, ↓isLv, ↓at_head, ↓v0, ↓v1, ↓v2, ↓v3, ↓v4, ↓v5, ↓v6, ↓v7, ↓v8, ↓v9, ↓v10, ↓v11, ↓v12, ↓v13, ↓v14, ↓v15, ↓v16, ↓v17, ↓t0, ↓t1, ↓t2, ↓t3, ↓t4, ↓t5, ↓t6, ↓t7, ↓t8, ↓setAll0, ↓setAll1, List.set_cons_zero, List.set_cons_succ, decide_eq_true_eq, Bool.not_eq_true', decide_eq_false_iff_not]
        refine ⟨rfl, ?_⟩
        cases Dn.isNon z with
        | false => exact ⟨_, rfl, trivial, hlt, rfl⟩
        | true =>
          rw [if_neg (by decide)]
          exact ⟨trivial, hlt, by rw [if_neg (by decide), List.append_nil]⟩
      · rintro acc S' ⟨rfl, hi, rfl⟩
        refine ⟨ok_nil _, ?_⟩
        rw [enumL_length, hdl, List.take_of_length_le (by rw [rngV_length]; exact Nat.le_refl _)]
        show W _ _ _ _
        unfold b_law_2_4 b_law_2_5
        try (simp only [↓w_c, ↓w_e2, ↓we1', ↓p_v, ↓pr0, ↓pr1, ↓pr2, ↓pr3, ↓prA, ↓prB, ↓poL, ↓poD, ↓wB', ↓wt_N, ↓wt_An, ↓wt_Or, ↓wt_Ye, ↓w_Bo, ↓w_An, ↓w_Or, ↓w_If, ↓ws_If, ↓wa_Nil, ↓wa_Cons, ↓wTup', ↓wLst', ↓wLstM', ↓w_Dct, ↓w_DctM, ↓w_B, ↓w_Call, ↓wMt', ↓pl_nil, ↓pl_cons, ↓wc_P, ↓wc_M, ↓wSl', ↓wo_No, ↓woS', ↓wRlv, ↓wRlm, ↓ws_Nil, ↓ws_Cons, ↓then_nx, ↓then_rt, ↓ws_Asg, ↓wg_Nm, ↓wg_Tp, ↓wgs_Nil, ↓wgs_Cons, ↓wgSb', ↓ws_Par, ↓aug0, ↓aug1, ↓aug2, ↓aug3, ↓aug4, ↓aug5, ↓aug6, ↓aug7, ↓aug8, ↓aug9, ↓aug10, ↓aug11, ↓aug12, ↓aug13, ↓aug14, ↓aug15, ↓aug16, ↓aug17, ↓wAugS', ↓ws_Ret, ↓ws_RetT, ↓ws_Drop, ↓ws_For, ↓wSq', ↓wRg', ↓rg1, ↓rg2, ↓rg3, ↓rl1, ↓rl2, ↓rl3, ↓wEn', ↓enV, ↓wZp', ↓zpVV, ↓zpVB, ↓g_add, ↓g_addL, ↓g_addT, ↓g_iadd, ↓g_sub, ↓g_mul, ↓g_mulL, ↓g_fdiv, ↓g_mod, ↓g_pow, ↓g_lt, ↓g_le, ↓g_gt, ↓g_ge, ↓g_eqI, ↓g_neI, ↓g_is, ↓g_isnt, ↓g_ixT, ↓g_ixL, ↓g_ixD, ↓gl_abs, ↓gl_max, ↓gl_min, ↓gl_int, ↓gl_intB, ↓gl_gcd, ↓gl_lenL, ↓gl_lenT, ↓gl_tupL, ↓gl_tupT, ↓gl_lstL, ↓gl_lstT, ↓gl_rep, ↓gl_sortD, ↓gl_sortL, ↓ngI, ↓slL, ↓slT, ↓slS, ↓bo, ↓io, ↓av0, ↓av1, ↓itL, ↓itT, ↓it0, ↓it1, ↓it2, ↓itB, ↓rtB, ↓rt_v, ↓g_ninI, ↓g_inI, ↓w_Lc, ↓w_LcM, ↓turn_nx, wipeL_cons, wipeL_nil, ↓sw0, ↓sw1, ↓sw2, ↓gix2, ↓app0, ↓app1, ↓app2, ↓appB, ↓isL0, ↓isL1, ↓isL2, ↓isLB, ↓isLv, ↓at_head, ↓v0, ↓v1, ↓v2, ↓v3, ↓v4, ↓v5, ↓v6, ↓v7, ↓v8, ↓v9, ↓v10, ↓v11, ↓v12, ↓v13, ↓v14, ↓v15, ↓v16, ↓v17, ↓t0, ↓t1, ↓t2, ↓t3, ↓t4, ↓t5, ↓t6, ↓t7, ↓t8, ↓setAll0, ↓setAll1, List.set_cons_zero, List.set_cons_succ, decide_eq_true_eq, Bool.not_eq_true', decide_eq_false_iff_not])
        refine ⟨rfl, w_alike hd1 hd2 ?_⟩
        try (simp only [↓w_c, ↓w_e2, ↓we1', ↓p_v, ↓pr0, ↓pr1, ↓pr2, ↓pr3, ↓prA, ↓prB, ↓poL, ↓poD, ↓wB', ↓wt_N, ↓wt_An, ↓wt_Or, ↓wt_Ye, ↓w_Bo, ↓w_An, ↓w_Or, ↓w_If, ↓ws_If, ↓wa_Nil, ↓wa_Cons, ↓wTup', ↓wLst', ↓wLstM', ↓w_Dct, ↓w_DctM, ↓w_B, ↓w_Call, ↓wMt', ↓pl_nil, ↓pl_cons, ↓wc_P, ↓wc_M, ↓wSl', ↓wo_No, ↓woS', ↓wRlv, ↓wRlm, ↓ws_Nil, ↓ws_Cons, ↓then_nx, ↓then_rt, ↓ws_Asg, ↓wg_Nm, ↓wg_Tp, ↓wgs_Nil, ↓wgs_Cons, ↓wgSb', ↓ws_Par, ↓aug0, ↓aug1, ↓aug2, ↓aug3, ↓aug4, ↓aug5, ↓aug6, ↓aug7, ↓aug8, ↓aug9, ↓aug10, ↓aug11, ↓aug12, ↓aug13, ↓aug14, ↓aug15, ↓aug16, ↓aug17, ↓wAugS', ↓ws_Ret, ↓ws_RetT, ↓ws_Drop, ↓ws_For, ↓wSq', ↓wRg', ↓rg1, ↓rg2, ↓rg3, ↓rl1, ↓rl2, ↓rl3, ↓wEn', ↓enV, ↓wZp', ↓zpVV, ↓zpVB, ↓g_add, ↓g_addL, ↓g_addT, ↓g_iadd, ↓g_sub, ↓g_mul, ↓g_mulL, ↓g_fdiv, ↓g_mod, ↓g_pow, ↓g_lt, ↓g_le, ↓g_gt, ↓g_ge, ↓g_eqI, ↓g_neI, ↓g_is, ↓g_isnt, ↓g_ixT, ↓g_ixL, ↓g_ixD, ↓gl_abs, ↓gl_max, ↓gl_min, ↓gl_int, ↓gl_intB, ↓gl_gcd, ↓gl_lenL, ↓gl_lenT, ↓gl_tupL, ↓gl_tupT, ↓gl_lstL, ↓gl_lstT, ↓gl_rep, ↓gl_sortD, ↓gl_sortL, ↓ngI, ↓slL, ↓slT, ↓slS, ↓bo, ↓io, ↓av0, ↓av1, ↓itL, ↓itT, ↓it0, ↓it1, ↓it2, ↓itB, ↓rtB, ↓rt_v, ↓g_ninI, ↓g_inI, ↓w_Lc, ↓w_LcM, ↓turn_nx, wipeL_cons, wipeL_nil, ↓sw0, ↓sw1, ↓sw2, ↓gix2, ↓app0, ↓app1, ↓app2, ↓appB, ↓isL0, ↓isL1, ↓isL2, ↓isLB, ↓isLv, ↓at_head, ↓v0, ↓v1, ↓v2, ↓v3, ↓v4, ↓v5, ↓v6, ↓v7, ↓v8, ↓v9, ↓v10, ↓v11, ↓v12, ↓v13, ↓v14, ↓v15, ↓v16, ↓v17, ↓t0, ↓t1, ↓t2, ↓t3, ↓t4, ↓t5, ↓t6, ↓t7, ↓t8, ↓setAll0, ↓setAll1, List.set_cons_zero, List.set_cons_succ, decide_eq_true_eq, Bool.not_eq_true', decide_eq_false_iff_not])
        rw [if_neg (by decide)]
        refine ⟨rfl, w_struck hs hn ?_⟩
        try (simp only [↓w_c, ↓w_e2, ↓we1', ↓p_v, ↓pr0, ↓pr1, ↓pr2, ↓pr3, ↓prA, ↓prB, ↓poL, ↓poD, ↓wB', ↓wt_N, ↓wt_An, ↓wt_Or, ↓wt_Ye, ↓w_Bo, ↓w_An, ↓w_Or, ↓w_If, ↓ws_If, ↓wa_Nil, ↓wa_Cons, ↓wTup', ↓wLst', ↓wLstM', ↓w_Dct, ↓w_DctM, ↓w_B, ↓w_Call, ↓wMt', ↓pl_nil, ↓pl_cons, ↓wc_P, ↓wc_M, ↓wSl', ↓wo_No, ↓woS', ↓wRlv, ↓wRlm, ↓ws_Nil, ↓ws_Cons, ↓then_nx, ↓then_rt, ↓ws_Asg, ↓wg_Nm, ↓wg_Tp, ↓wgs_Nil, ↓wgs_Cons, ↓wgSb', ↓ws_Par, ↓aug0, ↓aug1, ↓aug2, ↓aug3, ↓aug4, ↓aug5, ↓aug6, ↓aug7, ↓aug8, ↓aug9, ↓aug10, ↓aug11, ↓aug12, ↓aug13, ↓aug14, ↓aug15, ↓aug16, ↓aug17, ↓wAugS', ↓ws_Ret, ↓ws_RetT, ↓ws_Drop, ↓ws_For, ↓wSq', ↓wRg', ↓rg1, ↓rg2, ↓rg3, ↓rl1, ↓rl2, ↓rl3, ↓wEn', ↓enV, ↓wZp', ↓zpVV, ↓zpVB, ↓g_add, ↓g_addL, ↓g_addT, ↓g_iadd, ↓g_sub, ↓g_mul, ↓g_mulL, ↓g_fdiv, ↓g_mod, ↓g_pow, ↓g_lt, ↓g_le, ↓g_gt, ↓g_ge, ↓g_eqI, ↓g_neI, ↓g_is, ↓g_isnt, ↓g_ixT, ↓g_ixL, ↓g_ixD, ↓gl_abs, ↓gl_max, ↓gl_min, ↓gl_int, ↓gl_intB, ↓gl_gcd, ↓gl_lenL, ↓gl_lenT, ↓gl_tupL, ↓gl_tupT, ↓gl_lstL, ↓gl_lstT, ↓gl_rep, ↓gl_sortD, ↓gl_sortL, ↓ngI, ↓slL, ↓slT, ↓slS, ↓bo, ↓io, ↓av0, ↓av1, ↓itL, ↓itT, ↓it0, ↓it1, ↓it2, ↓itB, ↓rtB, ↓rt_v, ↓g_ninI, ↓g_inI, ↓w_Lc, ↓w_LcM, ↓turn_nx, wipeL_cons, wipeL_nil, ↓sw0, ↓sw1, ↓sw2, ↓gix2, ↓app0, ↓app1, ↓app2, ↓appB, ↓isL0, ↓isL1, ↓isL2, ↓isLB, ↓isLv, ↓at_head, ↓v0, ↓v1, ↓v2, ↓v3, ↓v4, ↓v5, ↓v6, ↓v7, ↓v8, ↓v9, ↓v10, ↓v11, ↓v12, ↓v13, ↓v14, ↓v15, ↓v16, ↓v17, ↓t0, ↓t1, ↓t2, ↓t3, ↓t4, ↓t5, ↓t6, ↓t7, ↓t8, ↓setAll0, ↓setAll1, List.set_cons_zero, List.set_cons_succ, decide_eq_true_eq, Bool.not_eq_true', decide_eq_false_iff_not])
        refine ⟨rfl, rfl, rfl, rfl, rfl, w_alike hf1 hf2 ?_⟩
        try (simp only [↓w_c, ↓w_e2, ↓we1', ↓p_v, ↓pr0, ↓pr1, ↓pr2, ↓pr3, ↓prA, ↓prB, ↓poL, ↓poD, ↓wB', ↓wt_N, ↓wt_An, ↓wt_Or, ↓wt_Ye, ↓w_Bo, ↓w_An, ↓w_Or, ↓w_If, ↓ws_If, ↓wa_Nil, ↓wa_Cons, ↓wTup', ↓wLst', ↓wLstM', ↓w_Dct, ↓w_DctM, ↓w_B, ↓w_Call, ↓wMt', ↓pl_nil, ↓pl_cons, ↓wc_P, ↓wc_M, ↓wSl', ↓wo_No, ↓woS', ↓wRlv, ↓wRlm, ↓ws_Nil, ↓ws_Cons, ↓then_nx, ↓then_rt, ↓ws_Asg, ↓wg_Nm, ↓wg_Tp, ↓wgs_Nil, ↓wgs_Cons, ↓wgSb', ↓ws_Par, ↓aug0, ↓aug1, ↓aug2, ↓aug3, ↓aug4, ↓aug5, ↓aug6, ↓aug7, ↓aug8, ↓aug9, ↓aug10, ↓aug11, ↓aug12, ↓aug13, ↓aug14, ↓aug15, ↓aug16, ↓aug17, ↓wAugS', ↓ws_Ret, ↓ws_RetT, ↓ws_Drop, ↓ws_For, ↓wSq', ↓wRg', ↓rg1, ↓rg2, ↓rg3, ↓rl1, ↓rl2, ↓rl3, ↓wEn', ↓enV, ↓wZp', ↓zpVV, ↓zpVB, ↓g_add, ↓g_addL, ↓g_addT, ↓g_iadd, ↓g_sub, ↓g_mul, ↓g_mulL, ↓g_fdiv, ↓g_mod, ↓g_pow, ↓g_lt, ↓g_le, ↓g_gt, ↓g_ge, ↓g_eqI, ↓g_neI, ↓g_is, ↓g_isnt, ↓g_ixT, ↓g_ixL, ↓g_ixD, ↓gl_abs, ↓gl_max, ↓gl_min, ↓gl_int, ↓gl_intB, ↓gl_gcd, ↓gl_lenL, ↓gl_lenT, ↓gl_tupL, ↓gl_tupT, ↓gl_lstL, ↓gl_lstT, ↓gl_rep, ↓gl_sortD, ↓gl_sortL, ↓ngI, ↓slL, ↓slT, ↓slS, ↓bo, ↓io, ↓av0, ↓av1, ↓itL, ↓itT, ↓it0, ↓it1, ↓it2, ↓itB, ↓rtB, ↓rt_v, ↓g_ninI, ↓g_inI, ↓w_Lc, ↓w_LcM, ↓turn_nx, wipeL_cons, wipeL_nil, ↓sw0, ↓sw1, ↓sw2, ↓gix2, ↓app0, ↓app1, ↓app2, ↓appB, ↓isL0, ↓isL1, ↓isL2, ↓isLB, ↓isLv, ↓at_head, ↓v0, ↓v1, ↓v2, ↓v3, ↓v4, ↓v5, ↓v6, ↓v7, ↓v8, ↓v9, ↓v10, ↓v11, ↓v12, ↓v13, ↓v14, ↓v15, ↓v16, ↓v17, ↓t0, ↓t1, ↓t2, ↓t3, ↓t4, ↓t5, ↓t6, ↓t7, ↓t8, ↓setAll0, ↓setAll1, List.set_cons_zero, List.set_cons_succ, decide_eq_true_eq, Bool.not_eq_true', decide_eq_false_iff_not])
        rw [if_neg (by decide)]
        refine ⟨rfl, sh_both hs hn, (g_neSame rfl).mpr ?_⟩
        try (simp only [↓w_c, ↓w_e2, ↓we1', ↓p_v, ↓pr0, ↓pr1, ↓pr2, ↓pr3, ↓prA, ↓prB, ↓poL, ↓poD, ↓wB', ↓wt_N, ↓wt_An, ↓wt_Or, ↓wt_Ye, ↓w_Bo, ↓w_An, ↓w_Or, ↓w_If, ↓ws_If, ↓wa_Nil, ↓wa_Cons, ↓wTup', ↓wLst', ↓wLstM', ↓w_Dct, ↓w_DctM, ↓w_B, ↓w_Call, ↓wMt', ↓pl_nil, ↓pl_cons, ↓wc_P, ↓wc_M, ↓wSl', ↓wo_No, ↓woS', ↓wRlv, ↓wRlm, ↓ws_Nil, ↓ws_Cons, ↓then_nx, ↓then_rt, ↓ws_Asg, ↓wg_Nm, ↓wg_Tp, ↓wgs_Nil, ↓wgs_Cons, ↓wgSb', ↓ws_Par, ↓aug0, ↓aug1, ↓aug2, ↓aug3, ↓aug4, ↓aug5, ↓aug6, ↓aug7, ↓aug8, ↓aug9, ↓aug10, ↓aug11, ↓aug12, ↓aug13, ↓aug14, ↓aug15, ↓aug16, ↓aug17, ↓wAugS', ↓ws_Ret, ↓ws_RetT, ↓ws_Drop, ↓ws_For, ↓wSq', ↓wRg', ↓rg1, ↓rg2, ↓rg3, ↓rl1, ↓rl2, ↓rl3, ↓wEn', ↓enV, ↓wZp', ↓zpVV, ↓zpVB, ↓g_add, ↓g_addL, ↓g_addT, ↓g_iadd, ↓g_sub, ↓g_mul, ↓g_mulL, ↓g_fdiv, ↓g_mod, ↓g_pow, ↓g_lt, ↓g_le, ↓g_gt, ↓g_ge, ↓g_eqI, ↓g_neI, ↓g_is, ↓g_isnt, ↓g_ixT, ↓g_ixL, ↓g_ixD, ↓gl_abs, ↓gl_max, ↓gl_min, ↓gl_int, ↓gl_intB, ↓gl_gcd, ↓gl_lenL, ↓gl_lenT, ↓gl_tupL, ↓gl_tupT, ↓gl_lstL, ↓gl_lstT, ↓gl_rep, ↓gl_sortD, ↓gl_sortL, ↓ngI, ↓slL, ↓slT, ↓slS, ↓bo, ↓io, ↓av0, ↓av1, ↓itL, ↓itT, ↓it0, ↓it1, ↓it2, ↓itB, ↓rtB, ↓rt_v, ↓g_ninI, ↓g_inI, ↓w_Lc, ↓w_LcM, ↓turn_nx, wipeL_cons, wipeL_nil, ↓sw0, ↓sw1, ↓sw2, ↓gix2, ↓app0, ↓app1, ↓app2, ↓appB, ↓isL0, ↓isL1, ↓isL2, ↓isLB, ↓isLv, ↓at_head, ↓v0, ↓v1, ↓v2, ↓v3, ↓v4, ↓v5, ↓v6, ↓v7, ↓v8, ↓v9, ↓v10, ↓v11, ↓v12, ↓v13, ↓v14, ↓v15, ↓v16, ↓v17, ↓t0, ↓t1, ↓t2, ↓t3, ↓t4, ↓t5, ↓t6, ↓t7, ↓t8, ↓setAll0, ↓setAll1, List.set_cons_zero, List.set_cons_succ, decide_eq_true_eq, Bool.not_eq_true', decide_eq_false_iff_not])
        rw [if_neg (by decide)]
        exact ⟨o3, _, _, _, _, _, _, _, _, _, hB3, rfl, rfl⟩
    · rintro r S' ⟨o1, a, b, c, d, e, f, g, h, j, hB1, rfl, rfl⟩
      refine ⟨ok_nil _, ?_⟩
      try (simp only [↓w_c, ↓w_e2, ↓we1', ↓p_v, ↓pr0, ↓pr1, ↓pr2, ↓pr3, ↓prA, ↓prB, ↓poL, ↓poD, ↓wB', ↓wt_N, ↓wt_An, ↓wt_Or, ↓wt_Ye, ↓w_Bo, ↓w_An, ↓w_Or, ↓w_If, ↓ws_If, ↓wa_Nil, ↓wa_Cons, ↓wTup', ↓wLst', ↓wLstM', ↓w_Dct, ↓w_DctM, ↓w_B, ↓w_Call, ↓wMt', ↓pl_nil, ↓pl_cons, ↓wc_P, ↓wc_M, ↓wSl', ↓wo_No, ↓woS', ↓wRlv, ↓wRlm, ↓ws_Nil, ↓ws_Cons, ↓then_nx, ↓then_rt, ↓ws_Asg, ↓wg_Nm, ↓wg_Tp, ↓wgs_Nil, ↓wgs_Cons, ↓wgSb', ↓ws_Par, ↓aug0, ↓aug1, ↓aug2, ↓aug3, ↓aug4, ↓aug5, ↓aug6, ↓aug7, ↓aug8, ↓aug9, ↓aug10, ↓aug11, ↓aug12, ↓aug13, ↓aug14, ↓aug15, ↓aug16, ↓aug17, ↓wAugS', ↓ws_Ret, ↓ws_RetT, ↓ws_Drop, ↓ws_For, ↓wSq', ↓wRg', ↓rg1, ↓rg2, ↓rg3, ↓rl1, ↓rl2, ↓rl3, ↓wEn', ↓enV, ↓wZp', ↓zpVV, ↓zpVB, ↓g_add, ↓g_addL, ↓g_addT, ↓g_iadd, ↓g_sub, ↓g_mul, ↓g_mulL, ↓g_fdiv, ↓g_mod, ↓g_pow, ↓g_lt, ↓g_le, ↓g_gt, ↓g_ge, ↓g_eqI, ↓g_neI, ↓g_is, ↓g_isnt, ↓g_ixT, ↓g_ixL, ↓g_ixD, ↓gl_abs, ↓gl_max, ↓gl_min, ↓gl_int, ↓gl_intB, ↓gl_gcd, ↓gl_lenL, ↓gl_lenT, ↓gl_tupL, ↓gl_tupT, ↓gl_lstL, ↓gl_lstT, ↓gl_rep, ↓gl_sortD, ↓gl_sortL, ↓ngI, ↓slL, ↓slT, ↓slS, ↓bo, ↓io, ↓av0, ↓av1, ↓itL, ↓itT, ↓it0, ↓it1, ↓it2, ↓itB, ↓rtB, ↓rt_v, ↓g_ninI, ↓g_inI, ↓w_Lc, ↓w_LcM, ↓turn_nx, wipeL_cons, wipeL_nil, ↓sw0, ↓sw1, ↓sw2, ↓gix2, ↓app0, ↓app1, ↓app2, ↓appB, ↓isL0, ↓isL1, ↓isL2, ↓isLB, ↓isLv, ↓at_head, ↓v0, ↓v1, ↓v2, ↓v3, ↓v4, ↓v5, ↓v6, ↓v7, ↓v8, ↓v9, ↓v10, ↓v11, ↓v12, ↓v13, ↓v14, ↓v15, ↓v16, ↓v17, ↓t0, ↓t1, ↓t2, ↓t3, ↓t4, ↓t5, ↓t6, ↓t7, ↓t8, ↓setAll0, ↓setAll1, List.set_cons_zero, List.set_cons_succ, decide_eq_true_eq, Bool.not_eq_true', decide_eq_false_iff_not])
      exact ⟨o1, _, _, _, _, _, _, _, _, _, _, hB1, rfl, rfl⟩
  · rintro r S' ⟨o1, a, b, c, d, e, f, g, h, i', j, hB1, rfl, rfl⟩
    refine ⟨ok_nil _, ?_⟩
    try (simp only [↓w_c, ↓w_e2, ↓we1', ↓p_v, ↓pr0, ↓pr1, ↓pr2, ↓pr3, ↓prA, ↓prB, ↓poL, ↓poD, ↓wB', ↓wt_N, ↓wt_An, ↓wt_Or, ↓wt_Ye, ↓w_Bo, ↓w_An, ↓w_Or, ↓w_If, ↓ws_If, ↓wa_Nil, ↓wa_Cons, ↓wTup', ↓wLst', ↓wLstM', ↓w_Dct, ↓w_DctM, ↓w_B, ↓w_Call, ↓wMt', ↓pl_nil, ↓pl_cons, ↓wc_P, ↓wc_M, ↓wSl', ↓wo_No, ↓woS', ↓wRlv, ↓wRlm, ↓ws_Nil, ↓ws_Cons, ↓then_nx, ↓then_rt, ↓ws_Asg, ↓wg_Nm, ↓wg_Tp, ↓wgs_Nil, ↓wgs_Cons, ↓wgSb', ↓ws_Par, ↓aug0, ↓aug1, ↓aug2, ↓aug3, ↓aug4, ↓aug5, ↓aug6, ↓aug7, ↓aug8, ↓aug9, ↓aug10, ↓aug11, ↓aug12, ↓aug13, ↓aug14, ↓aug15, ↓aug16, ↓aug17, ↓wAugS', ↓ws_Ret, ↓ws_RetT, ↓ws_Drop, ↓ws_For, ↓wSq', ↓wRg', ↓rg1, ↓rg2, ↓rg3, ↓rl1, ↓rl2, ↓rl3, ↓wEn', ↓enV, ↓wZp', ↓zpVV, ↓zpVB, ↓g_add, ↓g_addL, ↓g_addT, ↓g_iadd, ↓g_sub, ↓g_mul, ↓g_mulL, ↓g_fdiv, ↓g_mod, ↓g_pow, ↓g_lt, ↓g_le, ↓g_gt, ↓g_ge, ↓g_eqI, ↓g_neI, ↓g_is, ↓g_isnt, ↓g_ixT, ↓g_ixL, ↓g_ixD, ↓gl_abs, ↓gl_max, ↓gl_min, ↓gl_int, ↓gl_intB, ↓gl_gcd, ↓gl_lenL, ↓gl_lenT, ↓gl_tupL, ↓gl_tupT, ↓gl_lstL, ↓gl_lstT, ↓gl_rep, ↓gl_sortD, ↓gl_sortL, ↓ngI, ↓slL, ↓slT, ↓slS, ↓bo, ↓io, ↓av0, ↓av1, ↓itL, ↓itT, ↓it0, ↓it1, ↓it2, ↓itB, ↓rtB, ↓rt_v, ↓g_ninI, ↓g_inI, ↓w_Lc, ↓w_LcM, ↓turn_nx, wipeL_cons, wipeL_nil, ↓sw0, ↓sw1, ↓sw2, ↓gix2, ↓app0, ↓app1, ↓app2, ↓appB, ↓isL0, ↓isL1, ↓isL2, ↓isLB, ↓isLv, ↓at_head, ↓v0, ↓v1, ↓v2, ↓v3, ↓v4, ↓v5, ↓v6, ↓v7, ↓v8, ↓v9, ↓v10, ↓v11, ↓v12, ↓v13, ↓v14, ↓v15, ↓v16, ↓v17, ↓t0, ↓t1, ↓t2, ↓t3, ↓t4, ↓t5, ↓t6, ↓t7, ↓t8, ↓setAll0, ↓setAll1, List.set_cons_zero, List.set_cons_succ, decide_eq_true_eq, Bool.not_eq_true', decide_eq_false_iff_not])
    exact ⟨Nat.zero_le _, trivial⟩
end K61

namespace K61
open PySem PySem.Spec PyProof.Rows L2 Dn
def top (i : Nat) : Stmt := PySem.Challenge.pw_lampsaloft_k61_falls_and_who_is_struck.main.body.getD i (.Pass ⟨0, 0, 0, 0⟩)
def dOf (x : Str) (i : Nat) : He.DefD := ⟨(x, none), x, x, defArgs (top i), defBody (top i), defScope (top i), [], []⟩
def fns : List He.DefD := ([dOf "reduced" 2, dOf "added" 3, dOf "compared" 4, dOf "least_of" 5, dOf "lag_of" 7, dOf "hold_needed" 9, dOf "timeline" 10, dOf "carriers_of" 12, dOf "fall_of" 13, dOf "struck" 14, dOf "_law_bag" 16, dOf "_law_take" 17, dOf "_law_some" 18, dOf "_law_alike" 19, dOf "_law_over" 20, dOf "_law_added" 21, dOf "_law_is_below" 22, dOf "_law_reach" 23, dOf "_law_lag" 24, dOf "_law_is_enough" 25] : List He.DefD) ++ ([dOf "_law_first_enough" 26, dOf "_law_needed" 27, dOf "_law_times" 28, dOf "_law_writing" 29, dOf "_law_rows" 30, dOf "_law_picture" 31, dOf "_law_show_bounds" 32, dOf "_law_show_of" 33, dOf "_law_show" 34, dOf "_law_part" 35, dOf "_law_wind" 36, dOf "_law_moment" 37, dOf "_law_night" 38, dOf "_law_fall" 39, dOf "law" 40] : List He.DefD)
def fas : List He.Fa := ([.glo "reduced", .glo "added", .glo "compared", .glo "least_of", .glo "lag_of", .glo "hold_needed", .glo "timeline", .glo "carriers_of", .glo "fall_of", .glo "struck", .glo "_law_bag", .glo "_law_take", .glo "_law_some", .glo "_law_alike", .glo "_law_over", .glo "_law_added", .glo "_law_is_below", .glo "_law_reach", .glo "_law_lag", .glo "_law_is_enough"] : List He.Fa) ++ ([.glo "_law_first_enough", .glo "_law_needed", .glo "_law_times", .glo "_law_writing", .glo "_law_rows", .glo "_law_picture", .glo "_law_show_bounds", .glo "_law_show_of", .glo "_law_show", .glo "_law_part", .glo "_law_wind", .glo "_law_moment", .glo "_law_night", .glo "_law_fall", .glo "law", .free "abs", .free "enumerate", .free "int", .free "len", .free "list"] : List He.Fa) ++ ([.free "max", .free "range", .free "repr", .free "sorted", .free "tuple", .free "zip"] : List He.Fa)
def bls : List (Str × String) := [("gcd", "math.gcd")]
abbrev R : PySem.W.OpenRow := PySem.W.OpenLaw.row PySem.Challenge.rw_lampsaloft_k61_falls_and_who_is_struck
abbrev hk : PySem.W.Hook := hookK 4 bls fas fns
def ob (s : PySem.W.SharedT) : AlK := obsKG 4 bls fas fns (HandSHeadRun.getT s)
theorem ob_eq (s : PySem.W.SharedT) : ob s = hk.obs s.abs := obsKG_eq (HandSHeadRun.getT_eq s)
def loose : List PySem.Str := (["reduced", "added", "compared", "least_of", "lag_of", "hold_needed", "timeline", "carriers_of", "fall_of", "struck", "_law_bag", "_law_take", "_law_some", "_law_alike", "_law_over", "_law_added", "_law_is_below", "_law_reach", "_law_lag", "_law_is_enough"] : List PySem.Str) ++ (["_law_first_enough", "_law_needed", "_law_times", "_law_writing", "_law_rows", "_law_picture", "_law_show_bounds", "_law_show_of", "_law_show", "_law_part", "_law_wind", "_law_moment", "_law_night", "_law_fall", "gcd"] : List PySem.Str)
theorem run (w : World) : HandSHeadRun.RunEqI R (PySem.W.view R.prog [40]) hk ob 20000 loose w := by
  unfold HandSHeadRun.RunEqI
  kernel_rfl
structure Top (K : PySem.W.Frag) (mg : Str → Option Value) : Prop where
  says : SaysK bls fas fns K
  at_ : ∃ h : Heap, K.In h ∧ h.Ns mainGlobals mg
theorem Top.sys {K : PySem.W.Frag} {mg : Str → Option Value} (T : Top K mg) : SysK K := T.says.sys
theorem g_reduced {K : PySem.W.Frag} {mg : Str → Option Value} (T : Top K mg) : mg "reduced" = some (.ref (He.ga K "reduced")) := let ⟨_, a, b⟩ := T.at_; He.glo_ok a b (T.says.d.fact 0 (f := .glo "reduced") rfl)
theorem g_added {K : PySem.W.Frag} {mg : Str → Option Value} (T : Top K mg) : mg "added" = some (.ref (He.ga K "added")) := let ⟨_, a, b⟩ := T.at_; He.glo_ok a b (T.says.d.fact 1 (f := .glo "added") rfl)
theorem g_compared {K : PySem.W.Frag} {mg : Str → Option Value} (T : Top K mg) : mg "compared" = some (.ref (He.ga K "compared")) := let ⟨_, a, b⟩ := T.at_; He.glo_ok a b (T.says.d.fact 2 (f := .glo "compared") rfl)
theorem g_least_of {K : PySem.W.Frag} {mg : Str → Option Value} (T : Top K mg) : mg "least_of" = some (.ref (He.ga K "least_of")) := let ⟨_, a, b⟩ := T.at_; He.glo_ok a b (T.says.d.fact 3 (f := .glo "least_of") rfl)
theorem g_lag_of {K : PySem.W.Frag} {mg : Str → Option Value} (T : Top K mg) : mg "lag_of" = some (.ref (He.ga K "lag_of")) := let ⟨_, a, b⟩ := T.at_; He.glo_ok a b (T.says.d.fact 4 (f := .glo "lag_of") rfl)
theorem g_hold_needed {K : PySem.W.Frag} {mg : Str → Option Value} (T : Top K mg) : mg "hold_needed" = some (.ref (He.ga K "hold_needed")) := let ⟨_, a, b⟩ := T.at_; He.glo_ok a b (T.says.d.fact 5 (f := .glo "hold_needed") rfl)
theorem g_timeline {K : PySem.W.Frag} {mg : Str → Option Value} (T : Top K mg) : mg "timeline" = some (.ref (He.ga K "timeline")) := let ⟨_, a, b⟩ := T.at_; He.glo_ok a b (T.says.d.fact 6 (f := .glo "timeline") rfl)
theorem g_carriers_of {K : PySem.W.Frag} {mg : Str → Option Value} (T : Top K mg) : mg "carriers_of" = some (.ref (He.ga K "carriers_of")) := let ⟨_, a, b⟩ := T.at_; He.glo_ok a b (T.says.d.fact 7 (f := .glo "carriers_of") rfl)
theorem g_fall_of {K : PySem.W.Frag} {mg : Str → Option Value} (T : Top K mg) : mg "fall_of" = some (.ref (He.ga K "fall_of")) := let ⟨_, a, b⟩ := T.at_; He.glo_ok a b (T.says.d.fact 8 (f := .glo "fall_of") rfl)
theorem g_struck {K : PySem.W.Frag} {mg : Str → Option Value} (T : Top K mg) : mg "struck" = some (.ref (He.ga K "struck")) := let ⟨_, a, b⟩ := T.at_; He.glo_ok a b (T.says.d.fact 9 (f := .glo "struck") rfl)
theorem g__law_bag {K : PySem.W.Frag} {mg : Str → Option Value} (T : Top K mg) : mg "_law_bag" = some (.ref (He.ga K "_law_bag")) := let ⟨_, a, b⟩ := T.at_; He.glo_ok a b (T.says.d.fact 10 (f := .glo "_law_bag") rfl)
theorem g__law_take {K : PySem.W.Frag} {mg : Str → Option Value} (T : Top K mg) : mg "_law_take" = some (.ref (He.ga K "_law_take")) := let ⟨_, a, b⟩ := T.at_; He.glo_ok a b (T.says.d.fact 11 (f := .glo "_law_take") rfl)
theorem g__law_some {K : PySem.W.Frag} {mg : Str → Option Value} (T : Top K mg) : mg "_law_some" = some (.ref (He.ga K "_law_some")) := let ⟨_, a, b⟩ := T.at_; He.glo_ok a b (T.says.d.fact 12 (f := .glo "_law_some") rfl)
theorem g__law_alike {K : PySem.W.Frag} {mg : Str → Option Value} (T : Top K mg) : mg "_law_alike" = some (.ref (He.ga K "_law_alike")) := let ⟨_, a, b⟩ := T.at_; He.glo_ok a b (T.says.d.fact 13 (f := .glo "_law_alike") rfl)
theorem g__law_over {K : PySem.W.Frag} {mg : Str → Option Value} (T : Top K mg) : mg "_law_over" = some (.ref (He.ga K "_law_over")) := let ⟨_, a, b⟩ := T.at_; He.glo_ok a b (T.says.d.fact 14 (f := .glo "_law_over") rfl)
theorem g__law_added {K : PySem.W.Frag} {mg : Str → Option Value} (T : Top K mg) : mg "_law_added" = some (.ref (He.ga K "_law_added")) := let ⟨_, a, b⟩ := T.at_; He.glo_ok a b (T.says.d.fact 15 (f := .glo "_law_added") rfl)
theorem g__law_is_below {K : PySem.W.Frag} {mg : Str → Option Value} (T : Top K mg) : mg "_law_is_below" = some (.ref (He.ga K "_law_is_below")) := let ⟨_, a, b⟩ := T.at_; He.glo_ok a b (T.says.d.fact 16 (f := .glo "_law_is_below") rfl)
theorem g__law_reach {K : PySem.W.Frag} {mg : Str → Option Value} (T : Top K mg) : mg "_law_reach" = some (.ref (He.ga K "_law_reach")) := let ⟨_, a, b⟩ := T.at_; He.glo_ok a b (T.says.d.fact 17 (f := .glo "_law_reach") rfl)
theorem g__law_lag {K : PySem.W.Frag} {mg : Str → Option Value} (T : Top K mg) : mg "_law_lag" = some (.ref (He.ga K "_law_lag")) := let ⟨_, a, b⟩ := T.at_; He.glo_ok a b (T.says.d.fact 18 (f := .glo "_law_lag") rfl)
theorem g__law_is_enough {K : PySem.W.Frag} {mg : Str → Option Value} (T : Top K mg) : mg "_law_is_enough" = some (.ref (He.ga K "_law_is_enough")) := let ⟨_, a, b⟩ := T.at_; He.glo_ok a b (T.says.d.fact 19 (f := .glo "_law_is_enough") rfl)
theorem g__law_first_enough {K : PySem.W.Frag} {mg : Str → Option Value} (T : Top K mg) : mg "_law_first_enough" = some (.ref (He.ga K "_law_first_enough")) := let ⟨_, a, b⟩ := T.at_; He.glo_ok a b (T.says.d.fact 20 (f := .glo "_law_first_enough") rfl)
theorem g__law_needed {K : PySem.W.Frag} {mg : Str → Option Value} (T : Top K mg) : mg "_law_needed" = some (.ref (He.ga K "_law_needed")) := let ⟨_, a, b⟩ := T.at_; He.glo_ok a b (T.says.d.fact 21 (f := .glo "_law_needed") rfl)
theorem g__law_times {K : PySem.W.Frag} {mg : Str → Option Value} (T : Top K mg) : mg "_law_times" = some (.ref (He.ga K "_law_times")) := let ⟨_, a, b⟩ := T.at_; He.glo_ok a b (T.says.d.fact 22 (f := .glo "_law_times") rfl)
theorem g__law_writing {K : PySem.W.Frag} {mg : Str → Option Value} (T : Top K mg) : mg "_law_writing" = some (.ref (He.ga K "_law_writing")) := let ⟨_, a, b⟩ := T.at_; He.glo_ok a b (T.says.d.fact 23 (f := .glo "_law_writing") rfl)
theorem g__law_rows {K : PySem.W.Frag} {mg : Str → Option Value} (T : Top K mg) : mg "_law_rows" = some (.ref (He.ga K "_law_rows")) := let ⟨_, a, b⟩ := T.at_; He.glo_ok a b (T.says.d.fact 24 (f := .glo "_law_rows") rfl)
theorem g__law_picture {K : PySem.W.Frag} {mg : Str → Option Value} (T : Top K mg) : mg "_law_picture" = some (.ref (He.ga K "_law_picture")) := let ⟨_, a, b⟩ := T.at_; He.glo_ok a b (T.says.d.fact 25 (f := .glo "_law_picture") rfl)
theorem g__law_show_bounds {K : PySem.W.Frag} {mg : Str → Option Value} (T : Top K mg) : mg "_law_show_bounds" = some (.ref (He.ga K "_law_show_bounds")) := let ⟨_, a, b⟩ := T.at_; He.glo_ok a b (T.says.d.fact 26 (f := .glo "_law_show_bounds") rfl)
theorem g__law_show_of {K : PySem.W.Frag} {mg : Str → Option Value} (T : Top K mg) : mg "_law_show_of" = some (.ref (He.ga K "_law_show_of")) := let ⟨_, a, b⟩ := T.at_; He.glo_ok a b (T.says.d.fact 27 (f := .glo "_law_show_of") rfl)
theorem g__law_show {K : PySem.W.Frag} {mg : Str → Option Value} (T : Top K mg) : mg "_law_show" = some (.ref (He.ga K "_law_show")) := let ⟨_, a, b⟩ := T.at_; He.glo_ok a b (T.says.d.fact 28 (f := .glo "_law_show") rfl)
theorem g__law_part {K : PySem.W.Frag} {mg : Str → Option Value} (T : Top K mg) : mg "_law_part" = some (.ref (He.ga K "_law_part")) := let ⟨_, a, b⟩ := T.at_; He.glo_ok a b (T.says.d.fact 29 (f := .glo "_law_part") rfl)
theorem g__law_wind {K : PySem.W.Frag} {mg : Str → Option Value} (T : Top K mg) : mg "_law_wind" = some (.ref (He.ga K "_law_wind")) := let ⟨_, a, b⟩ := T.at_; He.glo_ok a b (T.says.d.fact 30 (f := .glo "_law_wind") rfl)
theorem g__law_moment {K : PySem.W.Frag} {mg : Str → Option Value} (T : Top K mg) : mg "_law_moment" = some (.ref (He.ga K "_law_moment")) := let ⟨_, a, b⟩ := T.at_; He.glo_ok a b (T.says.d.fact 31 (f := .glo "_law_moment") rfl)
theorem g__law_night {K : PySem.W.Frag} {mg : Str → Option Value} (T : Top K mg) : mg "_law_night" = some (.ref (He.ga K "_law_night")) := let ⟨_, a, b⟩ := T.at_; He.glo_ok a b (T.says.d.fact 32 (f := .glo "_law_night") rfl)
theorem g__law_fall {K : PySem.W.Frag} {mg : Str → Option Value} (T : Top K mg) : mg "_law_fall" = some (.ref (He.ga K "_law_fall")) := let ⟨_, a, b⟩ := T.at_; He.glo_ok a b (T.says.d.fact 33 (f := .glo "_law_fall") rfl)
theorem g_law {K : PySem.W.Frag} {mg : Str → Option Value} (T : Top K mg) : mg "law" = some (.ref (He.ga K "law")) := let ⟨_, a, b⟩ := T.at_; He.glo_ok a b (T.says.d.fact 34 (f := .glo "law") rfl)
theorem g_abs {K : PySem.W.Frag} {mg : Str → Option Value} (T : Top K mg) : mg "abs" = none := let ⟨_, a, b⟩ := T.at_; He.free_ok a b (T.says.d.fact 35 (f := .free "abs") rfl)
theorem bt_abs : bootBuiltins "abs" = some (.builtin "abs") := by decide +kernel
theorem g_enumerate {K : PySem.W.Frag} {mg : Str → Option Value} (T : Top K mg) : mg "enumerate" = none := let ⟨_, a, b⟩ := T.at_; He.free_ok a b (T.says.d.fact 36 (f := .free "enumerate") rfl)
theorem g_int {K : PySem.W.Frag} {mg : Str → Option Value} (T : Top K mg) : mg "int" = none := let ⟨_, a, b⟩ := T.at_; He.free_ok a b (T.says.d.fact 37 (f := .free "int") rfl)
theorem bt_int : bootBuiltins "int" = some (.type "int") := by decide +kernel
theorem g_len {K : PySem.W.Frag} {mg : Str → Option Value} (T : Top K mg) : mg "len" = none := let ⟨_, a, b⟩ := T.at_; He.free_ok a b (T.says.d.fact 38 (f := .free "len") rfl)
theorem bt_len : bootBuiltins "len" = some (.builtin "len") := by decide +kernel
theorem g_list {K : PySem.W.Frag} {mg : Str → Option Value} (T : Top K mg) : mg "list" = none := let ⟨_, a, b⟩ := T.at_; He.free_ok a b (T.says.d.fact 39 (f := .free "list") rfl)
theorem bt_list : bootBuiltins "list" = some (.type "list") := by decide +kernel
theorem g_max {K : PySem.W.Frag} {mg : Str → Option Value} (T : Top K mg) : mg "max" = none := let ⟨_, a, b⟩ := T.at_; He.free_ok a b (T.says.d.fact 40 (f := .free "max") rfl)
theorem bt_max : bootBuiltins "max" = some (.builtin "max") := by decide +kernel
theorem g_range {K : PySem.W.Frag} {mg : Str → Option Value} (T : Top K mg) : mg "range" = none := let ⟨_, a, b⟩ := T.at_; He.free_ok a b (T.says.d.fact 41 (f := .free "range") rfl)
theorem g_repr {K : PySem.W.Frag} {mg : Str → Option Value} (T : Top K mg) : mg "repr" = none := let ⟨_, a, b⟩ := T.at_; He.free_ok a b (T.says.d.fact 42 (f := .free "repr") rfl)
theorem bt_repr : bootBuiltins "repr" = some (.builtin "repr") := by decide +kernel
theorem g_sorted {K : PySem.W.Frag} {mg : Str → Option Value} (T : Top K mg) : mg "sorted" = none := let ⟨_, a, b⟩ := T.at_; He.free_ok a b (T.says.d.fact 43 (f := .free "sorted") rfl)
theorem bt_sorted : bootBuiltins "sorted" = some (.builtin "sorted") := by decide +kernel
theorem g_tuple {K : PySem.W.Frag} {mg : Str → Option Value} (T : Top K mg) : mg "tuple" = none := let ⟨_, a, b⟩ := T.at_; He.free_ok a b (T.says.d.fact 44 (f := .free "tuple") rfl)
theorem bt_tuple : bootBuiltins "tuple" = some (.type "tuple") := by decide +kernel
theorem g_zip {K : PySem.W.Frag} {mg : Str → Option Value} (T : Top K mg) : mg "zip" = none := let ⟨_, a, b⟩ := T.at_; He.free_ok a b (T.says.d.fact 45 (f := .free "zip") rfl)
theorem g_gcd {K : PySem.W.Frag} {mg : Str → Option Value} (T : Top K mg) : mg "gcd" = some (.builtin "math.gcd") := let ⟨_, a, b⟩ := T.at_; T.says.blt a b (p := ("gcd", "math.gcd")) (by decide +kernel)
theorem nd__law_added : ((("_law_added" : Str) == ("__debug__" : Str)) = false) ∧ ((("_law_added" : Str) == ("__classdict__" : Str)) = false) := ⟨by decide +kernel, by decide +kernel⟩
theorem nd__law_alike : ((("_law_alike" : Str) == ("__debug__" : Str)) = false) ∧ ((("_law_alike" : Str) == ("__classdict__" : Str)) = false) := ⟨by decide +kernel, by decide +kernel⟩
theorem nd__law_arrives : ((("_law_arrives" : Str) == ("__debug__" : Str)) = false) ∧ ((("_law_arrives" : Str) == ("__classdict__" : Str)) = false) := ⟨by decide +kernel, by decide +kernel⟩
theorem nd__law_bag : ((("_law_bag" : Str) == ("__debug__" : Str)) = false) ∧ ((("_law_bag" : Str) == ("__classdict__" : Str)) = false) := ⟨by decide +kernel, by decide +kernel⟩
theorem nd__law_bag_here : ((("_law_bag_here" : Str) == ("__debug__" : Str)) = false) ∧ ((("_law_bag_here" : Str) == ("__classdict__" : Str)) = false) := ⟨by decide +kernel, by decide +kernel⟩
theorem nd__law_begin : ((("_law_begin" : Str) == ("__debug__" : Str)) = false) ∧ ((("_law_begin" : Str) == ("__classdict__" : Str)) = false) := ⟨by decide +kernel, by decide +kernel⟩
theorem nd__law_bounds : ((("_law_bounds" : Str) == ("__debug__" : Str)) = false) ∧ ((("_law_bounds" : Str) == ("__classdict__" : Str)) = false) := ⟨by decide +kernel, by decide +kernel⟩
theorem nd__law_carrier : ((("_law_carrier" : Str) == ("__debug__" : Str)) = false) ∧ ((("_law_carrier" : Str) == ("__classdict__" : Str)) = false) := ⟨by decide +kernel, by decide +kernel⟩
theorem nd__law_cell : ((("_law_cell" : Str) == ("__debug__" : Str)) = false) ∧ ((("_law_cell" : Str) == ("__classdict__" : Str)) = false) := ⟨by decide +kernel, by decide +kernel⟩
theorem nd__law_clock : ((("_law_clock" : Str) == ("__debug__" : Str)) = false) ∧ ((("_law_clock" : Str) == ("__classdict__" : Str)) = false) := ⟨by decide +kernel, by decide +kernel⟩
theorem nd__law_d : ((("_law_d" : Str) == ("__debug__" : Str)) = false) ∧ ((("_law_d" : Str) == ("__classdict__" : Str)) = false) := ⟨by decide +kernel, by decide +kernel⟩
theorem nd__law_deep : ((("_law_deep" : Str) == ("__debug__" : Str)) = false) ∧ ((("_law_deep" : Str) == ("__classdict__" : Str)) = false) := ⟨by decide +kernel, by decide +kernel⟩
theorem nd__law_due : ((("_law_due" : Str) == ("__debug__" : Str)) = false) ∧ ((("_law_due" : Str) == ("__classdict__" : Str)) = false) := ⟨by decide +kernel, by decide +kernel⟩
theorem nd__law_ends : ((("_law_ends" : Str) == ("__debug__" : Str)) = false) ∧ ((("_law_ends" : Str) == ("__classdict__" : Str)) = false) := ⟨by decide +kernel, by decide +kernel⟩
theorem nd__law_errs : ((("_law_errs" : Str) == ("__debug__" : Str)) = false) ∧ ((("_law_errs" : Str) == ("__classdict__" : Str)) = false) := ⟨by decide +kernel, by decide +kernel⟩
theorem nd__law_fall : ((("_law_fall" : Str) == ("__debug__" : Str)) = false) ∧ ((("_law_fall" : Str) == ("__classdict__" : Str)) = false) := ⟨by decide +kernel, by decide +kernel⟩
theorem nd__law_fall_here : ((("_law_fall_here" : Str) == ("__debug__" : Str)) = false) ∧ ((("_law_fall_here" : Str) == ("__classdict__" : Str)) = false) := ⟨by decide +kernel, by decide +kernel⟩
theorem nd__law_falling : ((("_law_falling" : Str) == ("__debug__" : Str)) = false) ∧ ((("_law_falling" : Str) == ("__classdict__" : Str)) = false) := ⟨by decide +kernel, by decide +kernel⟩
theorem nd__law_falls : ((("_law_falls" : Str) == ("__debug__" : Str)) = false) ∧ ((("_law_falls" : Str) == ("__classdict__" : Str)) = false) := ⟨by decide +kernel, by decide +kernel⟩
theorem nd__law_first_enough : ((("_law_first_enough" : Str) == ("__debug__" : Str)) = false) ∧ ((("_law_first_enough" : Str) == ("__classdict__" : Str)) = false) := ⟨by decide +kernel, by decide +kernel⟩
theorem nd__law_flying : ((("_law_flying" : Str) == ("__debug__" : Str)) = false) ∧ ((("_law_flying" : Str) == ("__classdict__" : Str)) = false) := ⟨by decide +kernel, by decide +kernel⟩
theorem nd__law_found : ((("_law_found" : Str) == ("__debug__" : Str)) = false) ∧ ((("_law_found" : Str) == ("__classdict__" : Str)) = false) := ⟨by decide +kernel, by decide +kernel⟩
theorem nd__law_full : ((("_law_full" : Str) == ("__debug__" : Str)) = false) ∧ ((("_law_full" : Str) == ("__classdict__" : Str)) = false) := ⟨by decide +kernel, by decide +kernel⟩
theorem nd__law_high : ((("_law_high" : Str) == ("__debug__" : Str)) = false) ∧ ((("_law_high" : Str) == ("__classdict__" : Str)) = false) := ⟨by decide +kernel, by decide +kernel⟩
theorem nd__law_hold : ((("_law_hold" : Str) == ("__debug__" : Str)) = false) ∧ ((("_law_hold" : Str) == ("__classdict__" : Str)) = false) := ⟨by decide +kernel, by decide +kernel⟩
theorem nd__law_holding : ((("_law_holding" : Str) == ("__debug__" : Str)) = false) ∧ ((("_law_holding" : Str) == ("__classdict__" : Str)) = false) := ⟨by decide +kernel, by decide +kernel⟩
theorem nd__law_is_below : ((("_law_is_below" : Str) == ("__debug__" : Str)) = false) ∧ ((("_law_is_below" : Str) == ("__classdict__" : Str)) = false) := ⟨by decide +kernel, by decide +kernel⟩
theorem nd__law_is_enough : ((("_law_is_enough" : Str) == ("__debug__" : Str)) = false) ∧ ((("_law_is_enough" : Str) == ("__classdict__" : Str)) = false) := ⟨by decide +kernel, by decide +kernel⟩
theorem nd__law_key : ((("_law_key" : Str) == ("__debug__" : Str)) = false) ∧ ((("_law_key" : Str) == ("__classdict__" : Str)) = false) := ⟨by decide +kernel, by decide +kernel⟩
theorem nd__law_lag : ((("_law_lag" : Str) == ("__debug__" : Str)) = false) ∧ ((("_law_lag" : Str) == ("__classdict__" : Str)) = false) := ⟨by decide +kernel, by decide +kernel⟩
theorem nd__law_lag_here : ((("_law_lag_here" : Str) == ("__debug__" : Str)) = false) ∧ ((("_law_lag_here" : Str) == ("__classdict__" : Str)) = false) := ⟨by decide +kernel, by decide +kernel⟩
theorem nd__law_lamp : ((("_law_lamp" : Str) == ("__debug__" : Str)) = false) ∧ ((("_law_lamp" : Str) == ("__classdict__" : Str)) = false) := ⟨by decide +kernel, by decide +kernel⟩
theorem nd__law_lamps : ((("_law_lamps" : Str) == ("__debug__" : Str)) = false) ∧ ((("_law_lamps" : Str) == ("__classdict__" : Str)) = false) := ⟨by decide +kernel, by decide +kernel⟩
theorem nd__law_last : ((("_law_last" : Str) == ("__debug__" : Str)) = false) ∧ ((("_law_last" : Str) == ("__classdict__" : Str)) = false) := ⟨by decide +kernel, by decide +kernel⟩
theorem nd__law_least : ((("_law_least" : Str) == ("__debug__" : Str)) = false) ∧ ((("_law_least" : Str) == ("__classdict__" : Str)) = false) := ⟨by decide +kernel, by decide +kernel⟩
theorem nd__law_leaves : ((("_law_leaves" : Str) == ("__debug__" : Str)) = false) ∧ ((("_law_leaves" : Str) == ("__classdict__" : Str)) = false) := ⟨by decide +kernel, by decide +kernel⟩
theorem nd__law_left : ((("_law_left" : Str) == ("__debug__" : Str)) = false) ∧ ((("_law_left" : Str) == ("__classdict__" : Str)) = false) := ⟨by decide +kernel, by decide +kernel⟩
theorem nd__law_lost : ((("_law_lost" : Str) == ("__debug__" : Str)) = false) ∧ ((("_law_lost" : Str) == ("__classdict__" : Str)) = false) := ⟨by decide +kernel, by decide +kernel⟩
theorem nd__law_low : ((("_law_low" : Str) == ("__debug__" : Str)) = false) ∧ ((("_law_low" : Str) == ("__classdict__" : Str)) = false) := ⟨by decide +kernel, by decide +kernel⟩
theorem nd__law_many : ((("_law_many" : Str) == ("__debug__" : Str)) = false) ∧ ((("_law_many" : Str) == ("__classdict__" : Str)) = false) := ⟨by decide +kernel, by decide +kernel⟩
theorem nd__law_middle : ((("_law_middle" : Str) == ("__debug__" : Str)) = false) ∧ ((("_law_middle" : Str) == ("__classdict__" : Str)) = false) := ⟨by decide +kernel, by decide +kernel⟩
theorem nd__law_moment : ((("_law_moment" : Str) == ("__debug__" : Str)) = false) ∧ ((("_law_moment" : Str) == ("__classdict__" : Str)) = false) := ⟨by decide +kernel, by decide +kernel⟩
theorem nd__law_more : ((("_law_more" : Str) == ("__debug__" : Str)) = false) ∧ ((("_law_more" : Str) == ("__classdict__" : Str)) = false) := ⟨by decide +kernel, by decide +kernel⟩
theorem nd__law_most : ((("_law_most" : Str) == ("__debug__" : Str)) = false) ∧ ((("_law_most" : Str) == ("__classdict__" : Str)) = false) := ⟨by decide +kernel, by decide +kernel⟩
theorem nd__law_most_pads : ((("_law_most_pads" : Str) == ("__debug__" : Str)) = false) ∧ ((("_law_most_pads" : Str) == ("__classdict__" : Str)) = false) := ⟨by decide +kernel, by decide +kernel⟩
theorem nd__law_most_scenes : ((("_law_most_scenes" : Str) == ("__debug__" : Str)) = false) ∧ ((("_law_most_scenes" : Str) == ("__classdict__" : Str)) = false) := ⟨by decide +kernel, by decide +kernel⟩
theorem nd__law_n : ((("_law_n" : Str) == ("__debug__" : Str)) = false) ∧ ((("_law_n" : Str) == ("__classdict__" : Str)) = false) := ⟨by decide +kernel, by decide +kernel⟩
theorem nd__law_near : ((("_law_near" : Str) == ("__debug__" : Str)) = false) ∧ ((("_law_near" : Str) == ("__classdict__" : Str)) = false) := ⟨by decide +kernel, by decide +kernel⟩
theorem nd__law_nears : ((("_law_nears" : Str) == ("__debug__" : Str)) = false) ∧ ((("_law_nears" : Str) == ("__classdict__" : Str)) = false) := ⟨by decide +kernel, by decide +kernel⟩
theorem nd__law_needed : ((("_law_needed" : Str) == ("__debug__" : Str)) = false) ∧ ((("_law_needed" : Str) == ("__classdict__" : Str)) = false) := ⟨by decide +kernel, by decide +kernel⟩
theorem nd__law_night : ((("_law_night" : Str) == ("__debug__" : Str)) = false) ∧ ((("_law_night" : Str) == ("__classdict__" : Str)) = false) := ⟨by decide +kernel, by decide +kernel⟩
theorem nd__law_night_here : ((("_law_night_here" : Str) == ("__debug__" : Str)) = false) ∧ ((("_law_night_here" : Str) == ("__classdict__" : Str)) = false) := ⟨by decide +kernel, by decide +kernel⟩
theorem nd__law_number : ((("_law_number" : Str) == ("__debug__" : Str)) = false) ∧ ((("_law_number" : Str) == ("__classdict__" : Str)) = false) := ⟨by decide +kernel, by decide +kernel⟩
theorem nd__law_often : ((("_law_often" : Str) == ("__debug__" : Str)) = false) ∧ ((("_law_often" : Str) == ("__classdict__" : Str)) = false) := ⟨by decide +kernel, by decide +kernel⟩
theorem nd__law_one : ((("_law_one" : Str) == ("__debug__" : Str)) = false) ∧ ((("_law_one" : Str) == ("__classdict__" : Str)) = false) := ⟨by decide +kernel, by decide +kernel⟩
theorem nd__law_opens : ((("_law_opens" : Str) == ("__debug__" : Str)) = false) ∧ ((("_law_opens" : Str) == ("__classdict__" : Str)) = false) := ⟨by decide +kernel, by decide +kernel⟩
theorem nd__law_other : ((("_law_other" : Str) == ("__debug__" : Str)) = false) ∧ ((("_law_other" : Str) == ("__classdict__" : Str)) = false) := ⟨by decide +kernel, by decide +kernel⟩
theorem nd__law_over : ((("_law_over" : Str) == ("__debug__" : Str)) = false) ∧ ((("_law_over" : Str) == ("__classdict__" : Str)) = false) := ⟨by decide +kernel, by decide +kernel⟩
theorem nd__law_pads : ((("_law_pads" : Str) == ("__debug__" : Str)) = false) ∧ ((("_law_pads" : Str) == ("__classdict__" : Str)) = false) := ⟨by decide +kernel, by decide +kernel⟩
theorem nd__law_part : ((("_law_part" : Str) == ("__debug__" : Str)) = false) ∧ ((("_law_part" : Str) == ("__classdict__" : Str)) = false) := ⟨by decide +kernel, by decide +kernel⟩
theorem nd__law_picture : ((("_law_picture" : Str) == ("__debug__" : Str)) = false) ∧ ((("_law_picture" : Str) == ("__classdict__" : Str)) = false) := ⟨by decide +kernel, by decide +kernel⟩
theorem nd__law_picture_here : ((("_law_picture_here" : Str) == ("__debug__" : Str)) = false) ∧ ((("_law_picture_here" : Str) == ("__classdict__" : Str)) = false) := ⟨by decide +kernel, by decide +kernel⟩
theorem nd__law_reach : ((("_law_reach" : Str) == ("__debug__" : Str)) = false) ∧ ((("_law_reach" : Str) == ("__classdict__" : Str)) = false) := ⟨by decide +kernel, by decide +kernel⟩
theorem nd__law_reach_here : ((("_law_reach_here" : Str) == ("__debug__" : Str)) = false) ∧ ((("_law_reach_here" : Str) == ("__classdict__" : Str)) = false) := ⟨by decide +kernel, by decide +kernel⟩
theorem nd__law_right : ((("_law_right" : Str) == ("__debug__" : Str)) = false) ∧ ((("_law_right" : Str) == ("__classdict__" : Str)) = false) := ⟨by decide +kernel, by decide +kernel⟩
theorem nd__law_row : ((("_law_row" : Str) == ("__debug__" : Str)) = false) ∧ ((("_law_row" : Str) == ("__classdict__" : Str)) = false) := ⟨by decide +kernel, by decide +kernel⟩
theorem nd__law_rows : ((("_law_rows" : Str) == ("__debug__" : Str)) = false) ∧ ((("_law_rows" : Str) == ("__classdict__" : Str)) = false) := ⟨by decide +kernel, by decide +kernel⟩
theorem nd__law_rows_here : ((("_law_rows_here" : Str) == ("__debug__" : Str)) = false) ∧ ((("_law_rows_here" : Str) == ("__classdict__" : Str)) = false) := ⟨by decide +kernel, by decide +kernel⟩
theorem nd__law_said : ((("_law_said" : Str) == ("__debug__" : Str)) = false) ∧ ((("_law_said" : Str) == ("__classdict__" : Str)) = false) := ⟨by decide +kernel, by decide +kernel⟩
theorem nd__law_scene : ((("_law_scene" : Str) == ("__debug__" : Str)) = false) ∧ ((("_law_scene" : Str) == ("__classdict__" : Str)) = false) := ⟨by decide +kernel, by decide +kernel⟩
theorem nd__law_scenes : ((("_law_scenes" : Str) == ("__debug__" : Str)) = false) ∧ ((("_law_scenes" : Str) == ("__classdict__" : Str)) = false) := ⟨by decide +kernel, by decide +kernel⟩
theorem nd__law_script : ((("_law_script" : Str) == ("__debug__" : Str)) = false) ∧ ((("_law_script" : Str) == ("__classdict__" : Str)) = false) := ⟨by decide +kernel, by decide +kernel⟩
theorem nd__law_second : ((("_law_second" : Str) == ("__debug__" : Str)) = false) ∧ ((("_law_second" : Str) == ("__classdict__" : Str)) = false) := ⟨by decide +kernel, by decide +kernel⟩
theorem nd__law_shades : ((("_law_shades" : Str) == ("__debug__" : Str)) = false) ∧ ((("_law_shades" : Str) == ("__classdict__" : Str)) = false) := ⟨by decide +kernel, by decide +kernel⟩
theorem nd__law_show : ((("_law_show" : Str) == ("__debug__" : Str)) = false) ∧ ((("_law_show" : Str) == ("__classdict__" : Str)) = false) := ⟨by decide +kernel, by decide +kernel⟩
theorem nd__law_show_bounds : ((("_law_show_bounds" : Str) == ("__debug__" : Str)) = false) ∧ ((("_law_show_bounds" : Str) == ("__classdict__" : Str)) = false) := ⟨by decide +kernel, by decide +kernel⟩
theorem nd__law_show_here : ((("_law_show_here" : Str) == ("__debug__" : Str)) = false) ∧ ((("_law_show_here" : Str) == ("__classdict__" : Str)) = false) := ⟨by decide +kernel, by decide +kernel⟩
theorem nd__law_show_of : ((("_law_show_of" : Str) == ("__debug__" : Str)) = false) ∧ ((("_law_show_of" : Str) == ("__classdict__" : Str)) = false) := ⟨by decide +kernel, by decide +kernel⟩
theorem nd__law_some : ((("_law_some" : Str) == ("__debug__" : Str)) = false) ∧ ((("_law_some" : Str) == ("__classdict__" : Str)) = false) := ⟨by decide +kernel, by decide +kernel⟩
theorem nd__law_some_here : ((("_law_some_here" : Str) == ("__debug__" : Str)) = false) ∧ ((("_law_some_here" : Str) == ("__classdict__" : Str)) = false) := ⟨by decide +kernel, by decide +kernel⟩
theorem nd__law_spacing : ((("_law_spacing" : Str) == ("__debug__" : Str)) = false) ∧ ((("_law_spacing" : Str) == ("__classdict__" : Str)) = false) := ⟨by decide +kernel, by decide +kernel⟩
theorem nd__law_stirred : ((("_law_stirred" : Str) == ("__debug__" : Str)) = false) ∧ ((("_law_stirred" : Str) == ("__classdict__" : Str)) = false) := ⟨by decide +kernel, by decide +kernel⟩
theorem nd__law_take : ((("_law_take" : Str) == ("__debug__" : Str)) = false) ∧ ((("_law_take" : Str) == ("__classdict__" : Str)) = false) := ⟨by decide +kernel, by decide +kernel⟩
theorem nd__law_taken : ((("_law_taken" : Str) == ("__debug__" : Str)) = false) ∧ ((("_law_taken" : Str) == ("__classdict__" : Str)) = false) := ⟨by decide +kernel, by decide +kernel⟩
theorem nd__law_things : ((("_law_things" : Str) == ("__debug__" : Str)) = false) ∧ ((("_law_things" : Str) == ("__classdict__" : Str)) = false) := ⟨by decide +kernel, by decide +kernel⟩
theorem nd__law_tick : ((("_law_tick" : Str) == ("__debug__" : Str)) = false) ∧ ((("_law_tick" : Str) == ("__classdict__" : Str)) = false) := ⟨by decide +kernel, by decide +kernel⟩
theorem nd__law_ticks : ((("_law_ticks" : Str) == ("__debug__" : Str)) = false) ∧ ((("_law_ticks" : Str) == ("__classdict__" : Str)) = false) := ⟨by decide +kernel, by decide +kernel⟩
theorem nd__law_times : ((("_law_times" : Str) == ("__debug__" : Str)) = false) ∧ ((("_law_times" : Str) == ("__classdict__" : Str)) = false) := ⟨by decide +kernel, by decide +kernel⟩
theorem nd__law_times_here : ((("_law_times_here" : Str) == ("__debug__" : Str)) = false) ∧ ((("_law_times_here" : Str) == ("__classdict__" : Str)) = false) := ⟨by decide +kernel, by decide +kernel⟩
theorem nd__law_told : ((("_law_told" : Str) == ("__debug__" : Str)) = false) ∧ ((("_law_told" : Str) == ("__classdict__" : Str)) = false) := ⟨by decide +kernel, by decide +kernel⟩
theorem nd__law_top : ((("_law_top" : Str) == ("__debug__" : Str)) = false) ∧ ((("_law_top" : Str) == ("__classdict__" : Str)) = false) := ⟨by decide +kernel, by decide +kernel⟩
theorem nd__law_value : ((("_law_value" : Str) == ("__debug__" : Str)) = false) ∧ ((("_law_value" : Str) == ("__classdict__" : Str)) = false) := ⟨by decide +kernel, by decide +kernel⟩
theorem nd__law_way : ((("_law_way" : Str) == ("__debug__" : Str)) = false) ∧ ((("_law_way" : Str) == ("__classdict__" : Str)) = false) := ⟨by decide +kernel, by decide +kernel⟩
theorem nd__law_wide : ((("_law_wide" : Str) == ("__debug__" : Str)) = false) ∧ ((("_law_wide" : Str) == ("__classdict__" : Str)) = false) := ⟨by decide +kernel, by decide +kernel⟩
theorem nd__law_wind : ((("_law_wind" : Str) == ("__debug__" : Str)) = false) ∧ ((("_law_wind" : Str) == ("__classdict__" : Str)) = false) := ⟨by decide +kernel, by decide +kernel⟩
theorem nd__law_wind_here : ((("_law_wind_here" : Str) == ("__debug__" : Str)) = false) ∧ ((("_law_wind_here" : Str) == ("__classdict__" : Str)) = false) := ⟨by decide +kernel, by decide +kernel⟩
theorem nd__law_winds : ((("_law_winds" : Str) == ("__debug__" : Str)) = false) ∧ ((("_law_winds" : Str) == ("__classdict__" : Str)) = false) := ⟨by decide +kernel, by decide +kernel⟩
theorem nd__law_writing : ((("_law_writing" : Str) == ("__debug__" : Str)) = false) ∧ ((("_law_writing" : Str) == ("__classdict__" : Str)) = false) := ⟨by decide +kernel, by decide +kernel⟩
theorem nd__law_writing_here : ((("_law_writing_here" : Str) == ("__debug__" : Str)) = false) ∧ ((("_law_writing_here" : Str) == ("__classdict__" : Str)) = false) := ⟨by decide +kernel, by decide +kernel⟩
theorem nd__law_x : ((("_law_x" : Str) == ("__debug__" : Str)) = false) ∧ ((("_law_x" : Str) == ("__classdict__" : Str)) = false) := ⟨by decide +kernel, by decide +kernel⟩
theorem nd__law_y : ((("_law_y" : Str) == ("__debug__" : Str)) = false) ∧ ((("_law_y" : Str) == ("__classdict__" : Str)) = false) := ⟨by decide +kernel, by decide +kernel⟩
theorem nd__law_z : ((("_law_z" : Str) == ("__debug__" : Str)) = false) ∧ ((("_law_z" : Str) == ("__classdict__" : Str)) = false) := ⟨by decide +kernel, by decide +kernel⟩
theorem nd_abs : ((("abs" : Str) == ("__debug__" : Str)) = false) ∧ ((("abs" : Str) == ("__classdict__" : Str)) = false) := ⟨by decide +kernel, by decide +kernel⟩
theorem nd_added : ((("added" : Str) == ("__debug__" : Str)) = false) ∧ ((("added" : Str) == ("__classdict__" : Str)) = false) := ⟨by decide +kernel, by decide +kernel⟩
theorem nd_arrives : ((("arrives" : Str) == ("__debug__" : Str)) = false) ∧ ((("arrives" : Str) == ("__classdict__" : Str)) = false) := ⟨by decide +kernel, by decide +kernel⟩
theorem nd_bounds : ((("bounds" : Str) == ("__debug__" : Str)) = false) ∧ ((("bounds" : Str) == ("__classdict__" : Str)) = false) := ⟨by decide +kernel, by decide +kernel⟩
theorem nd_carrier : ((("carrier" : Str) == ("__debug__" : Str)) = false) ∧ ((("carrier" : Str) == ("__classdict__" : Str)) = false) := ⟨by decide +kernel, by decide +kernel⟩
theorem nd_carriers_of : ((("carriers_of" : Str) == ("__debug__" : Str)) = false) ∧ ((("carriers_of" : Str) == ("__classdict__" : Str)) = false) := ⟨by decide +kernel, by decide +kernel⟩
theorem nd_common : ((("common" : Str) == ("__debug__" : Str)) = false) ∧ ((("common" : Str) == ("__classdict__" : Str)) = false) := ⟨by decide +kernel, by decide +kernel⟩
theorem nd_compared : ((("compared" : Str) == ("__debug__" : Str)) = false) ∧ ((("compared" : Str) == ("__classdict__" : Str)) = false) := ⟨by decide +kernel, by decide +kernel⟩
theorem nd_d : ((("d" : Str) == ("__debug__" : Str)) = false) ∧ ((("d" : Str) == ("__classdict__" : Str)) = false) := ⟨by decide +kernel, by decide +kernel⟩
theorem nd_errs : ((("errs" : Str) == ("__debug__" : Str)) = false) ∧ ((("errs" : Str) == ("__classdict__" : Str)) = false) := ⟨by decide +kernel, by decide +kernel⟩
theorem nd_fall_of : ((("fall_of" : Str) == ("__debug__" : Str)) = false) ∧ ((("fall_of" : Str) == ("__classdict__" : Str)) = false) := ⟨by decide +kernel, by decide +kernel⟩
theorem nd_falls : ((("falls" : Str) == ("__debug__" : Str)) = false) ∧ ((("falls" : Str) == ("__classdict__" : Str)) = false) := ⟨by decide +kernel, by decide +kernel⟩
theorem nd_found : ((("found" : Str) == ("__debug__" : Str)) = false) ∧ ((("found" : Str) == ("__classdict__" : Str)) = false) := ⟨by decide +kernel, by decide +kernel⟩
theorem nd_fractions : ((("fractions" : Str) == ("__debug__" : Str)) = false) ∧ ((("fractions" : Str) == ("__classdict__" : Str)) = false) := ⟨by decide +kernel, by decide +kernel⟩
theorem nd_gcd : ((("gcd" : Str) == ("__debug__" : Str)) = false) ∧ ((("gcd" : Str) == ("__classdict__" : Str)) = false) := ⟨by decide +kernel, by decide +kernel⟩
theorem nd_hold : ((("hold" : Str) == ("__debug__" : Str)) = false) ∧ ((("hold" : Str) == ("__classdict__" : Str)) = false) := ⟨by decide +kernel, by decide +kernel⟩
theorem nd_hold_needed : ((("hold_needed" : Str) == ("__debug__" : Str)) = false) ∧ ((("hold_needed" : Str) == ("__classdict__" : Str)) = false) := ⟨by decide +kernel, by decide +kernel⟩
theorem nd_int : ((("int" : Str) == ("__debug__" : Str)) = false) ∧ ((("int" : Str) == ("__classdict__" : Str)) = false) := ⟨by decide +kernel, by decide +kernel⟩
theorem nd_its : ((("its" : Str) == ("__debug__" : Str)) = false) ∧ ((("its" : Str) == ("__classdict__" : Str)) = false) := ⟨by decide +kernel, by decide +kernel⟩
theorem nd_lag_of : ((("lag_of" : Str) == ("__debug__" : Str)) = false) ∧ ((("lag_of" : Str) == ("__classdict__" : Str)) = false) := ⟨by decide +kernel, by decide +kernel⟩
theorem nd_least_of : ((("least_of" : Str) == ("__debug__" : Str)) = false) ∧ ((("least_of" : Str) == ("__classdict__" : Str)) = false) := ⟨by decide +kernel, by decide +kernel⟩
theorem nd_leaves : ((("leaves" : Str) == ("__debug__" : Str)) = false) ∧ ((("leaves" : Str) == ("__classdict__" : Str)) = false) := ⟨by decide +kernel, by decide +kernel⟩
theorem nd_len : ((("len" : Str) == ("__debug__" : Str)) = false) ∧ ((("len" : Str) == ("__classdict__" : Str)) = false) := ⟨by decide +kernel, by decide +kernel⟩
theorem nd_lost : ((("lost" : Str) == ("__debug__" : Str)) = false) ∧ ((("lost" : Str) == ("__classdict__" : Str)) = false) := ⟨by decide +kernel, by decide +kernel⟩
theorem nd_max : ((("max" : Str) == ("__debug__" : Str)) = false) ∧ ((("max" : Str) == ("__classdict__" : Str)) = false) := ⟨by decide +kernel, by decide +kernel⟩
theorem nd_mine : ((("mine" : Str) == ("__debug__" : Str)) = false) ∧ ((("mine" : Str) == ("__classdict__" : Str)) = false) := ⟨by decide +kernel, by decide +kernel⟩
theorem nd_n : ((("n" : Str) == ("__debug__" : Str)) = false) ∧ ((("n" : Str) == ("__classdict__" : Str)) = false) := ⟨by decide +kernel, by decide +kernel⟩
theorem nd_night : ((("night" : Str) == ("__debug__" : Str)) = false) ∧ ((("night" : Str) == ("__classdict__" : Str)) = false) := ⟨by decide +kernel, by decide +kernel⟩
theorem nd_one : ((("one" : Str) == ("__debug__" : Str)) = false) ∧ ((("one" : Str) == ("__classdict__" : Str)) = false) := ⟨by decide +kernel, by decide +kernel⟩
theorem nd_opens : ((("opens" : Str) == ("__debug__" : Str)) = false) ∧ ((("opens" : Str) == ("__classdict__" : Str)) = false) := ⟨by decide +kernel, by decide +kernel⟩
theorem nd_other : ((("other" : Str) == ("__debug__" : Str)) = false) ∧ ((("other" : Str) == ("__classdict__" : Str)) = false) := ⟨by decide +kernel, by decide +kernel⟩
theorem nd_reduced : ((("reduced" : Str) == ("__debug__" : Str)) = false) ∧ ((("reduced" : Str) == ("__classdict__" : Str)) = false) := ⟨by decide +kernel, by decide +kernel⟩
theorem nd_repr : ((("repr" : Str) == ("__debug__" : Str)) = false) ∧ ((("repr" : Str) == ("__classdict__" : Str)) = false) := ⟨by decide +kernel, by decide +kernel⟩
theorem nd_scenes : ((("scenes" : Str) == ("__debug__" : Str)) = false) ∧ ((("scenes" : Str) == ("__classdict__" : Str)) = false) := ⟨by decide +kernel, by decide +kernel⟩
theorem nd_show : ((("show" : Str) == ("__debug__" : Str)) = false) ∧ ((("show" : Str) == ("__classdict__" : Str)) = false) := ⟨by decide +kernel, by decide +kernel⟩
theorem nd_sorted : ((("sorted" : Str) == ("__debug__" : Str)) = false) ∧ ((("sorted" : Str) == ("__classdict__" : Str)) = false) := ⟨by decide +kernel, by decide +kernel⟩
theorem nd_struck : ((("struck" : Str) == ("__debug__" : Str)) = false) ∧ ((("struck" : Str) == ("__classdict__" : Str)) = false) := ⟨by decide +kernel, by decide +kernel⟩
theorem nd_ticks : ((("ticks" : Str) == ("__debug__" : Str)) = false) ∧ ((("ticks" : Str) == ("__classdict__" : Str)) = false) := ⟨by decide +kernel, by decide +kernel⟩
theorem nd_timeline : ((("timeline" : Str) == ("__debug__" : Str)) = false) ∧ ((("timeline" : Str) == ("__classdict__" : Str)) = false) := ⟨by decide +kernel, by decide +kernel⟩
theorem nd_tuple : ((("tuple" : Str) == ("__debug__" : Str)) = false) ∧ ((("tuple" : Str) == ("__classdict__" : Str)) = false) := ⟨by decide +kernel, by decide +kernel⟩
/-- a def of the text keeps its meaning -/
def Good (P : Program) (wd : World) (K : PySem.W.Frag) (mg : Str → Option Value) (base : Heap) (x : Str) (i : Nat) (ps : List Str) (k : Nat) (c : CM) : Prop :=
  ∃ fd, FunD K x x (defArgs (top i)) (defBody (top i)) (defScope (top i)) [] [] (He.ga K x) fd ∧ Binds K fd ps [] ∧ (∀ (s : Shared) (us : List Value), us.length = ps.length → BindsTo s fd ⟨us, []⟩ (ps.zip us)) ∧ FnG P wd K mg base k (He.ga K x) fd ps (spF K ps.length c)
section
variable {P : Program} {wd : World} {K : PySem.W.Frag} {mg : Str → Option Value} {base : Heap}
abbrev N_reduced : List Str := ["n", "d", "common"]
theorem sc_reduced : FnScope N_reduced ["n", "d"] (defScope (top 2)) := ⟨rfl, rfl, rfl, by decide +kernel, rfl, by decide +kernel, by decide +kernel⟩
theorem ok_reduced (T : Top K mg) : Good P wd K mg base "reduced" 2 ["n", "d"] 1 c_reduced := by
  obtain ⟨fd, F0⟩ := T.says.d.def_ 0 (d := dOf "reduced" 2) rfl
  have F : FunD K "reduced" "reduced" (defArgs (top 2)) (defBody (top 2)) (defScope (top 2)) [] [] (He.ga K "reduced") fd := F0
  refine ⟨fd, F, FunD.bindsN F (ps := ["n", "d"]) fun _ _ _ _ _ _ us hl => match us, hl with | [_, _], _ => rfl, FunD.bindsA F (ps := ["n", "d"]) fun _ _ _ _ _ _ us hl => match us, hl with | [_, _], _ => rfl, FnG.den (N := N_reduced) false F sc_reduced fun cdv A outer s H E hr hgd => PSs.nox ?_⟩
  have nd : N_reduced.Nodup := sc_reduced.nd
  have hu1 : (A.deeper (envOfC "reduced" (defScope (top 2)) s.heap.objs.size (He.ga K "reduced") cdv)).units + 1 < cLine := by have := hr.un; omega
  have hu64 : (A.deeper (envOfC "reduced" (defScope (top 2)) s.heap.objs.size (He.ga K "reduced") cdv)).units + 64 < cLine := by have := hr.un; omega
  have hu65 : (A.deeper (envOfC "reduced" (defScope (top 2)) s.heap.objs.size (He.ga K "reduced") cdv)).units + 65 < cLine := by have := hr.un; omega
  exact dss_cons (ds_set (i := 2) nd rfl (.inl rfl) (de_if (dt_cmp op_gtP (de_var (i := 1) rfl (.inl rfl) (nd_d).1 (nd_d).2) (de_int) (nomark _)) (de_callBfun (cr_P cr_gcdG) rfl (g_gcd T) (da_cons (de_var (i := 0) rfl (.inl rfl) (nd_n).1 (nd_n).2) (da_cons (de_var (i := 1) rfl (.inl rfl) (nd_d).1 (nd_d).2) (da_nil) rfl) rfl) (nd_gcd).1 rfl rfl) (de_neg (de_callBfun (cr_P cr_gcdG) rfl (g_gcd T) (da_cons (de_var (i := 0) rfl (.inl rfl) (nd_n).1 (nd_n).2) (da_cons (de_var (i := 1) rfl (.inl rfl) (nd_d).1 (nd_d).2) (da_nil) rfl) rfl) (nd_gcd).1 rfl rfl))) rfl (.inl rfl)) (dss_cons (ds_ret (de_tup (da_cons (de_op op_fdivP (de_var (i := 0) rfl (.inl rfl) (nd_n).1 (nd_n).2) (de_var (i := 2) rfl (.inl rfl) (nd_common).1 (nd_common).2)) (da_cons (de_op op_fdivP (de_var (i := 1) rfl (.inl rfl) (nd_d).1 (nd_d).2) (de_var (i := 2) rfl (.inl rfl) (nd_common).1 (nd_common).2)) (da_nil) rfl) rfl))) (dss_nil))
abbrev N_compared : List Str := ["one", "other", "mine", "its"]
theorem sc_compared : FnScope N_compared ["one", "other"] (defScope (top 4)) := ⟨rfl, rfl, rfl, by decide +kernel, rfl, by decide +kernel, by decide +kernel⟩
theorem ok_compared (T : Top K mg) : Good P wd K mg base "compared" 4 ["one", "other"] 1 c_compared := by
  obtain ⟨fd, F0⟩ := T.says.d.def_ 2 (d := dOf "compared" 4) rfl
  have F : FunD K "compared" "compared" (defArgs (top 4)) (defBody (top 4)) (defScope (top 4)) [] [] (He.ga K "compared") fd := F0
  refine ⟨fd, F, FunD.bindsN F (ps := ["one", "other"]) fun _ _ _ _ _ _ us hl => match us, hl with | [_, _], _ => rfl, FunD.bindsA F (ps := ["one", "other"]) fun _ _ _ _ _ _ us hl => match us, hl with | [_, _], _ => rfl, FnG.den (N := N_compared) false F sc_compared fun cdv A outer s H E hr hgd => PSs.nox ?_⟩
  have nd : N_compared.Nodup := sc_compared.nd
  have hu1 : (A.deeper (envOfC "compared" (defScope (top 4)) s.heap.objs.size (He.ga K "compared") cdv)).units + 1 < cLine := by have := hr.un; omega
  have hu64 : (A.deeper (envOfC "compared" (defScope (top 4)) s.heap.objs.size (He.ga K "compared") cdv)).units + 64 < cLine := by have := hr.un; omega
  have hu65 : (A.deeper (envOfC "compared" (defScope (top 4)) s.heap.objs.size (He.ga K "compared") cdv)).units + 65 < cLine := by have := hr.un; omega
  exact dss_cons (ds_par2 (i := 2) (j := 3) rfl nd rfl rfl (by decide) rfl rfl (da_cons (de_op op_mulP (de_ix hu1 (de_var (i := 0) rfl (.inl rfl) (nd_one).1 (nd_one).2) (de_int) (fun _ _ => rfl)) (de_ix hu1 (de_var (i := 1) rfl (.inl rfl) (nd_other).1 (nd_other).2) (de_int) (fun _ _ => rfl))) (da_cons (de_op op_mulP (de_ix hu1 (de_var (i := 1) rfl (.inl rfl) (nd_other).1 (nd_other).2) (de_int) (fun _ _ => rfl)) (de_ix hu1 (de_var (i := 0) rfl (.inl rfl) (nd_one).1 (nd_one).2) (de_int) (fun _ _ => rfl))) (da_nil) rfl) rfl) rfl rfl) (dss_cons (ds_ret (de_op op_subP (de_callTy (cr_P cr_intG) rfl (g_int T) bt_int (da_cons (de_cmp op_gtP (de_var (i := 2) rfl (.inl rfl) (nd_mine).1 (nd_mine).2) (de_var (i := 3) rfl (.inl rfl) (nd_its).1 (nd_its).2) (nomark _)) (da_nil) rfl) (by decide) (nd_int).1 rfl rfl) (de_callTy (cr_P cr_intG) rfl (g_int T) bt_int (da_cons (de_cmp op_ltP (de_var (i := 2) rfl (.inl rfl) (nd_mine).1 (nd_mine).2) (de_var (i := 3) rfl (.inl rfl) (nd_its).1 (nd_its).2) (nomark _)) (da_nil) rfl) (by decide) (nd_int).1 rfl rfl))) (dss_nil))
abbrev N_lag_of : List Str := ["bounds"]
theorem sc_lag_of : FnScope N_lag_of ["bounds"] (defScope (top 7)) := ⟨rfl, rfl, rfl, by decide +kernel, rfl, by decide +kernel, by decide +kernel⟩
theorem ok_lag_of (T : Top K mg) : Good P wd K mg base "lag_of" 7 ["bounds"] 1 c_lag_of := by
  obtain ⟨fd, F0⟩ := T.says.d.def_ 4 (d := dOf "lag_of" 7) rfl
  have F : FunD K "lag_of" "lag_of" (defArgs (top 7)) (defBody (top 7)) (defScope (top 7)) [] [] (He.ga K "lag_of") fd := F0
  refine ⟨fd, F, FunD.bindsN F (ps := ["bounds"]) fun _ _ _ _ _ _ us hl => match us, hl with | [_], _ => rfl, FunD.bindsA F (ps := ["bounds"]) fun _ _ _ _ _ _ us hl => match us, hl with | [_], _ => rfl, FnG.den (N := N_lag_of) false F sc_lag_of fun cdv A outer s H E hr hgd => PSs.nox ?_⟩
  have nd : N_lag_of.Nodup := sc_lag_of.nd
  have hu1 : (A.deeper (envOfC "lag_of" (defScope (top 7)) s.heap.objs.size (He.ga K "lag_of") cdv)).units + 1 < cLine := by have := hr.un; omega
  have hu64 : (A.deeper (envOfC "lag_of" (defScope (top 7)) s.heap.objs.size (He.ga K "lag_of") cdv)).units + 64 < cLine := by have := hr.un; omega
  have hu65 : (A.deeper (envOfC "lag_of" (defScope (top 7)) s.heap.objs.size (He.ga K "lag_of") cdv)).units + 65 < cLine := by have := hr.un; omega
  exact dss_cons (ds_ret (de_op op_addP (de_ix hu1 (de_var (i := 0) rfl (.inl rfl) (nd_bounds).1 (nd_bounds).2) (de_int) (fun _ _ => rfl)) (de_op op_mulP (de_int) (de_ix hu1 (de_var (i := 0) rfl (.inl rfl) (nd_bounds).1 (nd_bounds).2) (de_int) (fun _ _ => rfl))))) (dss_nil)
abbrev N_carriers_of : List Str := ["show"]
theorem sc_carriers_of : FnScope N_carriers_of ["show"] (defScope (top 12)) := ⟨rfl, rfl, rfl, by decide +kernel, rfl, by decide +kernel, by decide +kernel⟩
theorem ok_carriers_of (T : Top K mg) : Good P wd K mg base "carriers_of" 12 ["show"] 1 c_carriers_of := by
  obtain ⟨fd, F0⟩ := T.says.d.def_ 7 (d := dOf "carriers_of" 12) rfl
  have F : FunD K "carriers_of" "carriers_of" (defArgs (top 12)) (defBody (top 12)) (defScope (top 12)) [] [] (He.ga K "carriers_of") fd := F0
  refine ⟨fd, F, FunD.bindsN F (ps := ["show"]) fun _ _ _ _ _ _ us hl => match us, hl with | [_], _ => rfl, FunD.bindsA F (ps := ["show"]) fun _ _ _ _ _ _ us hl => match us, hl with | [_], _ => rfl, FnG.den (N := N_carriers_of) false F sc_carriers_of fun cdv A outer s H E hr hgd => PSs.nox ?_⟩
  have nd : N_carriers_of.Nodup := sc_carriers_of.nd
  have hu1 : (A.deeper (envOfC "carriers_of" (defScope (top 12)) s.heap.objs.size (He.ga K "carriers_of") cdv)).units + 1 < cLine := by have := hr.un; omega
  have hu64 : (A.deeper (envOfC "carriers_of" (defScope (top 12)) s.heap.objs.size (He.ga K "carriers_of") cdv)).units + 64 < cLine := by have := hr.un; omega
  have hu65 : (A.deeper (envOfC "carriers_of" (defScope (top 12)) s.heap.objs.size (He.ga K "carriers_of") cdv)).units + 65 < cLine := by have := hr.un; omega
  exact dss_cons (ds_ret (de_rl1 rfl rfl (g_list T) rfl (g_range T) (de_callB (cr_P cr_lenG) rfl (g_len T) bt_len (da_cons (de_ix hu1 (de_var (i := 0) rfl (.inl rfl) (nd_show).1 (nd_show).2) (de_int) (fun _ _ => rfl)) (da_nil) rfl) (by decide) (nd_len).1 rfl rfl) rfl rfl)) (dss_nil)
abbrev N__law_bag : List Str := ["_law_script", "_law_cell"]
theorem sc__law_bag : FnScope N__law_bag ["_law_script"] (defScope (top 16)) := ⟨rfl, rfl, rfl, by decide +kernel, rfl, by decide +kernel, by decide +kernel⟩
theorem ok__law_bag (T : Top K mg) : Good P wd K mg base "_law_bag" 16 ["_law_script"] 1 c__law_bag := by
  obtain ⟨fd, F0⟩ := T.says.d.def_ 10 (d := dOf "_law_bag" 16) rfl
  have F : FunD K "_law_bag" "_law_bag" (defArgs (top 16)) (defBody (top 16)) (defScope (top 16)) [] [] (He.ga K "_law_bag") fd := F0
  refine ⟨fd, F, FunD.bindsN F (ps := ["_law_script"]) fun _ _ _ _ _ _ us hl => match us, hl with | [_], _ => rfl, FunD.bindsA F (ps := ["_law_script"]) fun _ _ _ _ _ _ us hl => match us, hl with | [_], _ => rfl, FnG.den (N := N__law_bag) true F sc__law_bag fun cdv A outer s H E hr hgd => PSs.nox ?_⟩
  have nd : N__law_bag.Nodup := sc__law_bag.nd
  have hu1 : (A.deeper (envOfC "_law_bag" (defScope (top 16)) s.heap.objs.size (He.ga K "_law_bag") cdv)).units + 1 < cLine := by have := hr.un; omega
  have hu64 : (A.deeper (envOfC "_law_bag" (defScope (top 16)) s.heap.objs.size (He.ga K "_law_bag") cdv)).units + 64 < cLine := by have := hr.un; omega
  have hu65 : (A.deeper (envOfC "_law_bag" (defScope (top 16)) s.heap.objs.size (He.ga K "_law_bag") cdv)).units + 65 < cLine := by have := hr.un; omega
  exact dss_cons (ds_ret (de_lstM (da_cons (de_int) (da_cons (de_int) (da_cons (de_int) (da_cons (de_lc (own := [("_law_cell", 1)]) { hc := rfl, hN := nd, hi := di_seq (de_sl (de_var (i := 0) rfl (.inl rfl) (nd__law_script).1 (nd__law_script).2) (do_none) (do_some (de_int))), ok := blkOk_by (N := N__law_bag) (sc := defScope (top 16)) (by decide +kernel), hg := fun _ _ _ _ _ => dv_name (i := 1) nd rfl (.inl rfl) (.inr rfl) (by decide), ht := fun _ _ _ _ _ => dts_nil, he := fun _ _ _ _ _ => de_callB (cr_P cr_absG) rfl (g_abs T) bt_abs (da_cons (de_var (i := 1) rfl (.inl rfl) (nd__law_cell).1 (nd__law_cell).2) (da_nil) rfl) (by decide) (nd_abs).1 rfl rfl, hs := fun _ => rfl }) (da_nil) rfl) rfl) rfl) rfl))) (dss_nil)
abbrev N__law_take : List Str := ["_law_bag_here", "_law_many", "_law_cell", "_law_stirred", "_law_value", "_law_begin", "_law_second"]
theorem sc__law_take : FnScope N__law_take ["_law_bag_here", "_law_many"] (defScope (top 17)) := ⟨rfl, rfl, rfl, by decide +kernel, rfl, by decide +kernel, by decide +kernel⟩
theorem ok__law_take (T : Top K mg) : Good P wd K mg base "_law_take" 17 ["_law_bag_here", "_law_many"] 1 c__law_take := by
  obtain ⟨fd, F0⟩ := T.says.d.def_ 11 (d := dOf "_law_take" 17) rfl
  have F : FunD K "_law_take" "_law_take" (defArgs (top 17)) (defBody (top 17)) (defScope (top 17)) [] [] (He.ga K "_law_take") fd := F0
  refine ⟨fd, F, FunD.bindsN F (ps := ["_law_bag_here", "_law_many"]) fun _ _ _ _ _ _ us hl => match us, hl with | [_, _], _ => rfl, FunD.bindsA F (ps := ["_law_bag_here", "_law_many"]) fun _ _ _ _ _ _ us hl => match us, hl with | [_, _], _ => rfl, FnG.den (N := N__law_take) false F sc__law_take fun cdv A outer s H E hr hgd => PSs.nox ?_⟩
  have nd : N__law_take.Nodup := sc__law_take.nd
  have hu1 : (A.deeper (envOfC "_law_take" (defScope (top 17)) s.heap.objs.size (He.ga K "_law_take") cdv)).units + 1 < cLine := by have := hr.un; omega
  have hu64 : (A.deeper (envOfC "_law_take" (defScope (top 17)) s.heap.objs.size (He.ga K "_law_take") cdv)).units + 64 < cLine := by have := hr.un; omega
  have hu65 : (A.deeper (envOfC "_law_take" (defScope (top 17)) s.heap.objs.size (He.ga K "_law_take") cdv)).units + 65 < cLine := by have := hr.un; omega
  exact dss_cons (ds_if (dt_cmp (op_eqP hu64) (de_ix hu1 (de_var (i := 0) rfl (.inl rfl) (nd__law_bag_here).1 (nd__law_bag_here).2) (de_int) (fun _ _ => rfl)) (de_int) (nomark _)) (dss_cons (ds_set (i := 2) nd rfl (.inl rfl) (de_ix hu1 (de_op op_addP (de_sl (de_ix hu1 (de_var (i := 0) rfl (.inl rfl) (nd__law_bag_here).1 (nd__law_bag_here).2) (de_int) (fun _ _ => rfl)) (do_some (de_ix hu1 (de_var (i := 0) rfl (.inl rfl) (nd__law_bag_here).1 (nd__law_bag_here).2) (de_int) (fun _ _ => rfl))) (do_none)) (de_lst (da_cons (de_int) (da_nil) rfl))) (de_int) (fun _ _ => rfl)) rfl (.inl rfl)) (dss_cons (ds_augS (de_var (i := 0) rfl (.inl rfl) (nd__law_bag_here).1 (nd__law_bag_here).2) (de_int) (pg_gIx hu1) (de_int) ip_addP (ps_wSet hu1) (fun _ _ _ => rfl)) (dss_cons (ds_if (dt_cmp op_geP (de_var (i := 2) rfl (.inl rfl) (nd__law_cell).1 (nd__law_cell).2) (de_op op_powP (de_int) (de_int)) (nomark _)) (dss_cons (ds_asg (de_var (i := 2) rfl (.inl rfl) (nd__law_cell).1 (nd__law_cell).2) (dg_sub (de_var (i := 0) rfl (.inl rfl) (nd__law_bag_here).1 (nd__law_bag_here).2) (de_int) (ps_wSet hu1) (fun _ => rfl)) rfl rfl rfl) (dss_nil)) (dss_nil)) (dss_cons (ds_set (i := 3) nd rfl (.inl rfl) (de_op op_addP (de_op op_addP (de_op op_mulP (de_ix hu1 (de_var (i := 0) rfl (.inl rfl) (nd__law_bag_here).1 (nd__law_bag_here).2) (de_int) (fun _ _ => rfl)) (de_int)) (de_op op_modP (de_callTy (cr_P cr_intG) rfl (g_int T) bt_int (da_cons (de_var (i := 2) rfl (.inl rfl) (nd__law_cell).1 (nd__law_cell).2) (da_nil) rfl) (by decide) (nd_int).1 rfl rfl) (de_int))) (de_op op_mulP (de_int) (de_ix hu1 (de_var (i := 0) rfl (.inl rfl) (nd__law_bag_here).1 (nd__law_bag_here).2) (de_int) (fun _ _ => rfl)))) rfl (.inl rfl)) (dss_cons (ds_asg (de_op op_modP (de_callTy (cr_P cr_intG) rfl (g_int T) bt_int (da_cons (de_var (i := 3) rfl (.inl rfl) (nd__law_stirred).1 (nd__law_stirred).2) (da_nil) rfl) (by decide) (nd_int).1 rfl rfl) (de_int)) (dg_sub (de_var (i := 0) rfl (.inl rfl) (nd__law_bag_here).1 (nd__law_bag_here).2) (de_int) (ps_wSet hu1) (fun _ => rfl)) rfl rfl rfl) (dss_nil)))))) (dss_nil)) (dss_cons (ds_if (dt_cmp op_gtP (de_ix hu1 (de_var (i := 0) rfl (.inl rfl) (nd__law_bag_here).1 (nd__law_bag_here).2) (de_int) (fun _ _ => rfl)) (de_int) (nomark _)) (dss_cons (ds_set (i := 4) nd rfl (.inl rfl) (de_op op_modP (de_callTy (cr_P cr_intG) rfl (g_int T) bt_int (da_cons (de_ix hu1 (de_var (i := 0) rfl (.inl rfl) (nd__law_bag_here).1 (nd__law_bag_here).2) (de_int) (fun _ _ => rfl)) (da_nil) rfl) (by decide) (nd_int).1 rfl rfl) (de_var (i := 1) rfl (.inl rfl) (nd__law_many).1 (nd__law_many).2)) rfl (.inl rfl)) (dss_cons (ds_asg (de_op op_fdivP (de_callTy (cr_P cr_intG) rfl (g_int T) bt_int (da_cons (de_ix hu1 (de_var (i := 0) rfl (.inl rfl) (nd__law_bag_here).1 (nd__law_bag_here).2) (de_int) (fun _ _ => rfl)) (da_nil) rfl) (by decide) (nd_int).1 rfl rfl) (de_var (i := 1) rfl (.inl rfl) (nd__law_many).1 (nd__law_many).2)) (dg_sub (de_var (i := 0) rfl (.inl rfl) (nd__law_bag_here).1 (nd__law_bag_here).2) (de_int) (ps_wSet hu1) (fun _ => rfl)) rfl rfl rfl) (dss_cons (ds_ret (de_var (i := 4) rfl (.inl rfl) (nd__law_value).1 (nd__law_value).2)) (dss_nil)))) (dss_nil)) (dss_cons (ds_set (i := 5) nd rfl (.inl rfl) (de_op op_modP (de_callTy (cr_P cr_intG) rfl (g_int T) bt_int (da_cons (de_op op_mulP (de_op op_addP (de_ix hu1 (de_var (i := 0) rfl (.inl rfl) (nd__law_bag_here).1 (nd__law_bag_here).2) (de_int) (fun _ _ => rfl)) (de_int)) (de_int)) (da_nil) rfl) (by decide) (nd_int).1 rfl rfl) (de_int)) rfl (.inl rfl)) (dss_cons (ds_set (i := 6) nd rfl (.inl rfl) (de_op op_modP (de_callTy (cr_P cr_intG) rfl (g_int T) bt_int (da_cons (de_op op_mulP (de_op op_modP (de_callTy (cr_P cr_intG) rfl (g_int T) bt_int (da_cons (de_op op_mulP (de_var (i := 5) rfl (.inl rfl) (nd__law_begin).1 (nd__law_begin).2) (de_var (i := 5) rfl (.inl rfl) (nd__law_begin).1 (nd__law_begin).2)) (da_nil) rfl) (by decide) (nd_int).1 rfl rfl) (de_int)) (de_int)) (da_nil) rfl) (by decide) (nd_int).1 rfl rfl) (de_int)) rfl (.inl rfl)) (dss_cons (ds_ret (de_op op_modP (de_callTy (cr_P cr_intG) rfl (g_int T) bt_int (da_cons (de_op op_fdivP (de_var (i := 6) rfl (.inl rfl) (nd__law_second).1 (nd__law_second).2) (de_int)) (da_nil) rfl) (by decide) (nd_int).1 rfl rfl) (de_var (i := 1) rfl (.inl rfl) (nd__law_many).1 (nd__law_many).2))) (dss_nil)))))
abbrev N__law_alike : List Str := ["_law_found", "_law_due"]
theorem sc__law_alike : FnScope N__law_alike ["_law_found", "_law_due"] (defScope (top 19)) := ⟨rfl, rfl, rfl, by decide +kernel, rfl, by decide +kernel, by decide +kernel⟩
theorem ok__law_alike (T : Top K mg) : Good P wd K mg base "_law_alike" 19 ["_law_found", "_law_due"] 1 c__law_alike := by
  obtain ⟨fd, F0⟩ := T.says.d.def_ 13 (d := dOf "_law_alike" 19) rfl
  have F : FunD K "_law_alike" "_law_alike" (defArgs (top 19)) (defBody (top 19)) (defScope (top 19)) [] [] (He.ga K "_law_alike") fd := F0
  refine ⟨fd, F, FunD.bindsN F (ps := ["_law_found", "_law_due"]) fun _ _ _ _ _ _ us hl => match us, hl with | [_, _], _ => rfl, FunD.bindsA F (ps := ["_law_found", "_law_due"]) fun _ _ _ _ _ _ us hl => match us, hl with | [_, _], _ => rfl, FnG.den (N := N__law_alike) false F sc__law_alike fun cdv A outer s H E hr hgd => PSs.nox ?_⟩
  have nd : N__law_alike.Nodup := sc__law_alike.nd
  have hu1 : (A.deeper (envOfC "_law_alike" (defScope (top 19)) s.heap.objs.size (He.ga K "_law_alike") cdv)).units + 1 < cLine := by have := hr.un; omega
  have hu64 : (A.deeper (envOfC "_law_alike" (defScope (top 19)) s.heap.objs.size (He.ga K "_law_alike") cdv)).units + 64 < cLine := by have := hr.un; omega
  have hu65 : (A.deeper (envOfC "_law_alike" (defScope (top 19)) s.heap.objs.size (He.ga K "_law_alike") cdv)).units + 65 < cLine := by have := hr.un; omega
  exact dss_cons (ds_ret (de_and (de_cmp (op_eqP hu64) (de_var (i := 0) rfl (.inl rfl) (nd__law_found).1 (nd__law_found).2) (de_var (i := 1) rfl (.inl rfl) (nd__law_due).1 (nd__law_due).2) (nomark _)) (de_one (de_cmp (op_eqP hu64) (de_callB (cr_P (cr_repG T.sys hgd hu64)) rfl (g_repr T) bt_repr (da_cons (de_var (i := 0) rfl (.inl rfl) (nd__law_found).1 (nd__law_found).2) (da_nil) rfl) (by decide) (nd_repr).1 rfl rfl) (de_callB (cr_P (cr_repG T.sys hgd hu64)) rfl (g_repr T) bt_repr (da_cons (de_var (i := 1) rfl (.inl rfl) (nd__law_due).1 (nd__law_due).2) (da_nil) rfl) (by decide) (nd_repr).1 rfl rfl) (nomark _))))) (dss_nil)
abbrev N__law_over : List Str := ["_law_n", "_law_d", "_law_one", "_law_other"]
theorem sc__law_over : FnScope N__law_over ["_law_n", "_law_d"] (defScope (top 20)) := ⟨rfl, rfl, rfl, by decide +kernel, rfl, by decide +kernel, by decide +kernel⟩
theorem ok__law_over (T : Top K mg) : Good P wd K mg base "_law_over" 20 ["_law_n", "_law_d"] 1 c__law_over := by
  obtain ⟨fd, F0⟩ := T.says.d.def_ 14 (d := dOf "_law_over" 20) rfl
  have F : FunD K "_law_over" "_law_over" (defArgs (top 20)) (defBody (top 20)) (defScope (top 20)) [] [] (He.ga K "_law_over") fd := F0
  refine ⟨fd, F, FunD.bindsN F (ps := ["_law_n", "_law_d"]) fun _ _ _ _ _ _ us hl => match us, hl with | [_, _], _ => rfl, FunD.bindsA F (ps := ["_law_n", "_law_d"]) fun _ _ _ _ _ _ us hl => match us, hl with | [_, _], _ => rfl, FnG.den (N := N__law_over) false F sc__law_over fun cdv A outer s H E hr hgd => PSs.nox ?_⟩
  have nd : N__law_over.Nodup := sc__law_over.nd
  have hu1 : (A.deeper (envOfC "_law_over" (defScope (top 20)) s.heap.objs.size (He.ga K "_law_over") cdv)).units + 1 < cLine := by have := hr.un; omega
  have hu64 : (A.deeper (envOfC "_law_over" (defScope (top 20)) s.heap.objs.size (He.ga K "_law_over") cdv)).units + 64 < cLine := by have := hr.un; omega
  have hu65 : (A.deeper (envOfC "_law_over" (defScope (top 20)) s.heap.objs.size (He.ga K "_law_over") cdv)).units + 65 < cLine := by have := hr.un; omega
  exact dss_cons (ds_par2 (i := 2) (j := 3) rfl nd rfl rfl (by decide) rfl rfl (da_cons (de_callB (cr_P cr_absG) rfl (g_abs T) bt_abs (da_cons (de_var (i := 0) rfl (.inl rfl) (nd__law_n).1 (nd__law_n).2) (da_nil) rfl) (by decide) (nd_abs).1 rfl rfl) (da_cons (de_callB (cr_P cr_absG) rfl (g_abs T) bt_abs (da_cons (de_var (i := 1) rfl (.inl rfl) (nd__law_d).1 (nd__law_d).2) (da_nil) rfl) (by decide) (nd_abs).1 rfl rfl) (da_nil) rfl) rfl) rfl rfl) (dss_cons (ds_while PassesOwn.never (dt_cmp op_gtP (de_var (i := 3) rfl (.inl rfl) (nd__law_other).1 (nd__law_other).2) (de_int) (nomark _)) (dss_cons (ds_par2 (i := 2) (j := 3) rfl nd rfl rfl (by decide) rfl rfl (da_cons (de_var (i := 3) rfl (.inl rfl) (nd__law_other).1 (nd__law_other).2) (da_cons (de_op op_modP (de_callTy (cr_P cr_intG) rfl (g_int T) bt_int (da_cons (de_var (i := 2) rfl (.inl rfl) (nd__law_one).1 (nd__law_one).2) (da_nil) rfl) (by decide) (nd_int).1 rfl rfl) (de_var (i := 3) rfl (.inl rfl) (nd__law_other).1 (nd__law_other).2)) (da_nil) rfl) rfl) rfl rfl) (dss_nil))) (dss_cons (ds_set (i := 2) nd rfl (.inl rfl) (de_if (dt_cmp op_gtP (de_var (i := 1) rfl (.inl rfl) (nd__law_d).1 (nd__law_d).2) (de_int) (nomark _)) (de_var (i := 2) rfl (.inl rfl) (nd__law_one).1 (nd__law_one).2) (de_neg (de_var (i := 2) rfl (.inl rfl) (nd__law_one).1 (nd__law_one).2))) rfl (.inl rfl)) (dss_cons (ds_ret (de_tup (da_cons (de_op op_fdivP (de_callTy (cr_P cr_intG) rfl (g_int T) bt_int (da_cons (de_var (i := 0) rfl (.inl rfl) (nd__law_n).1 (nd__law_n).2) (da_nil) rfl) (by decide) (nd_int).1 rfl rfl) (de_var (i := 2) rfl (.inl rfl) (nd__law_one).1 (nd__law_one).2)) (da_cons (de_op op_fdivP (de_callTy (cr_P cr_intG) rfl (g_int T) bt_int (da_cons (de_var (i := 1) rfl (.inl rfl) (nd__law_d).1 (nd__law_d).2) (da_nil) rfl) (by decide) (nd_int).1 rfl rfl) (de_var (i := 2) rfl (.inl rfl) (nd__law_one).1 (nd__law_one).2)) (da_nil) rfl) rfl))) (dss_nil))))
abbrev N__law_is_below : List Str := ["_law_x", "_law_y"]
theorem sc__law_is_below : FnScope N__law_is_below ["_law_x", "_law_y"] (defScope (top 22)) := ⟨rfl, rfl, rfl, by decide +kernel, rfl, by decide +kernel, by decide +kernel⟩
theorem ok__law_is_below (T : Top K mg) : Good P wd K mg base "_law_is_below" 22 ["_law_x", "_law_y"] 1 c__law_is_below := by
  obtain ⟨fd, F0⟩ := T.says.d.def_ 16 (d := dOf "_law_is_below" 22) rfl
  have F : FunD K "_law_is_below" "_law_is_below" (defArgs (top 22)) (defBody (top 22)) (defScope (top 22)) [] [] (He.ga K "_law_is_below") fd := F0
  refine ⟨fd, F, FunD.bindsN F (ps := ["_law_x", "_law_y"]) fun _ _ _ _ _ _ us hl => match us, hl with | [_, _], _ => rfl, FunD.bindsA F (ps := ["_law_x", "_law_y"]) fun _ _ _ _ _ _ us hl => match us, hl with | [_, _], _ => rfl, FnG.den (N := N__law_is_below) false F sc__law_is_below fun cdv A outer s H E hr hgd => PSs.nox ?_⟩
  have nd : N__law_is_below.Nodup := sc__law_is_below.nd
  have hu1 : (A.deeper (envOfC "_law_is_below" (defScope (top 22)) s.heap.objs.size (He.ga K "_law_is_below") cdv)).units + 1 < cLine := by have := hr.un; omega
  have hu64 : (A.deeper (envOfC "_law_is_below" (defScope (top 22)) s.heap.objs.size (He.ga K "_law_is_below") cdv)).units + 64 < cLine := by have := hr.un; omega
  have hu65 : (A.deeper (envOfC "_law_is_below" (defScope (top 22)) s.heap.objs.size (He.ga K "_law_is_below") cdv)).units + 65 < cLine := by have := hr.un; omega
  exact dss_cons (ds_ret (de_cmp op_ltP (de_op op_mulP (de_ix hu1 (de_var (i := 0) rfl (.inl rfl) (nd__law_x).1 (nd__law_x).2) (de_int) (fun _ _ => rfl)) (de_ix hu1 (de_var (i := 1) rfl (.inl rfl) (nd__law_y).1 (nd__law_y).2) (de_int) (fun _ _ => rfl))) (de_op op_mulP (de_ix hu1 (de_var (i := 1) rfl (.inl rfl) (nd__law_y).1 (nd__law_y).2) (de_int) (fun _ _ => rfl)) (de_ix hu1 (de_var (i := 0) rfl (.inl rfl) (nd__law_x).1 (nd__law_x).2) (de_int) (fun _ _ => rfl))) (nomark _))) (dss_nil)
abbrev N__law_reach : List Str := ["_law_bounds"]
theorem sc__law_reach : FnScope N__law_reach ["_law_bounds"] (defScope (top 23)) := ⟨rfl, rfl, rfl, by decide +kernel, rfl, by decide +kernel, by decide +kernel⟩
theorem ok__law_reach (T : Top K mg) : Good P wd K mg base "_law_reach" 23 ["_law_bounds"] 1 c__law_reach := by
  obtain ⟨fd, F0⟩ := T.says.d.def_ 17 (d := dOf "_law_reach" 23) rfl
  have F : FunD K "_law_reach" "_law_reach" (defArgs (top 23)) (defBody (top 23)) (defScope (top 23)) [] [] (He.ga K "_law_reach") fd := F0
  refine ⟨fd, F, FunD.bindsN F (ps := ["_law_bounds"]) fun _ _ _ _ _ _ us hl => match us, hl with | [_], _ => rfl, FunD.bindsA F (ps := ["_law_bounds"]) fun _ _ _ _ _ _ us hl => match us, hl with | [_], _ => rfl, FnG.den (N := N__law_reach) false F sc__law_reach fun cdv A outer s H E hr hgd => PSs.nox ?_⟩
  have nd : N__law_reach.Nodup := sc__law_reach.nd
  have hu1 : (A.deeper (envOfC "_law_reach" (defScope (top 23)) s.heap.objs.size (He.ga K "_law_reach") cdv)).units + 1 < cLine := by have := hr.un; omega
  have hu64 : (A.deeper (envOfC "_law_reach" (defScope (top 23)) s.heap.objs.size (He.ga K "_law_reach") cdv)).units + 64 < cLine := by have := hr.un; omega
  have hu65 : (A.deeper (envOfC "_law_reach" (defScope (top 23)) s.heap.objs.size (He.ga K "_law_reach") cdv)).units + 65 < cLine := by have := hr.un; omega
  exact dss_cons (ds_ret (de_op op_addP (de_ix hu1 (de_var (i := 0) rfl (.inl rfl) (nd__law_bounds).1 (nd__law_bounds).2) (de_int) (fun _ _ => rfl)) (de_op op_mulP (de_int) (de_ix hu1 (de_var (i := 0) rfl (.inl rfl) (nd__law_bounds).1 (nd__law_bounds).2) (de_int) (fun _ _ => rfl))))) (dss_nil)
abbrev N__law_lag : List Str := ["_law_bounds"]
theorem sc__law_lag : FnScope N__law_lag ["_law_bounds"] (defScope (top 24)) := ⟨rfl, rfl, rfl, by decide +kernel, rfl, by decide +kernel, by decide +kernel⟩
theorem ok__law_lag (T : Top K mg) : Good P wd K mg base "_law_lag" 24 ["_law_bounds"] 1 c__law_lag := by
  obtain ⟨fd, F0⟩ := T.says.d.def_ 18 (d := dOf "_law_lag" 24) rfl
  have F : FunD K "_law_lag" "_law_lag" (defArgs (top 24)) (defBody (top 24)) (defScope (top 24)) [] [] (He.ga K "_law_lag") fd := F0
  refine ⟨fd, F, FunD.bindsN F (ps := ["_law_bounds"]) fun _ _ _ _ _ _ us hl => match us, hl with | [_], _ => rfl, FunD.bindsA F (ps := ["_law_bounds"]) fun _ _ _ _ _ _ us hl => match us, hl with | [_], _ => rfl, FnG.den (N := N__law_lag) false F sc__law_lag fun cdv A outer s H E hr hgd => PSs.nox ?_⟩
  have nd : N__law_lag.Nodup := sc__law_lag.nd
  have hu1 : (A.deeper (envOfC "_law_lag" (defScope (top 24)) s.heap.objs.size (He.ga K "_law_lag") cdv)).units + 1 < cLine := by have := hr.un; omega
  have hu64 : (A.deeper (envOfC "_law_lag" (defScope (top 24)) s.heap.objs.size (He.ga K "_law_lag") cdv)).units + 64 < cLine := by have := hr.un; omega
  have hu65 : (A.deeper (envOfC "_law_lag" (defScope (top 24)) s.heap.objs.size (He.ga K "_law_lag") cdv)).units + 65 < cLine := by have := hr.un; omega
  exact dss_cons (ds_ret (de_op op_addP (de_ix hu1 (de_var (i := 0) rfl (.inl rfl) (nd__law_bounds).1 (nd__law_bounds).2) (de_int) (fun _ _ => rfl)) (de_op op_mulP (de_int) (de_ix hu1 (de_var (i := 0) rfl (.inl rfl) (nd__law_bounds).1 (nd__law_bounds).2) (de_int) (fun _ _ => rfl))))) (dss_nil)
abbrev N__law_rows : List Str := ["_law_picture_here", "_law_spacing", "_law_found", "_law_lamp", "_law_taken", "_law_other", "_law_row"]
theorem sc__law_rows : FnScope N__law_rows ["_law_picture_here", "_law_spacing"] (defScope (top 30)) := ⟨rfl, rfl, rfl, by decide +kernel, rfl, by decide +kernel, by decide +kernel⟩
theorem ok__law_rows (T : Top K mg) : Good P wd K mg base "_law_rows" 30 ["_law_picture_here", "_law_spacing"] 1 c__law_rows := by
  obtain ⟨fd, F0⟩ := T.says.d.def_ 24 (d := dOf "_law_rows" 30) rfl
  have F : FunD K "_law_rows" "_law_rows" (defArgs (top 30)) (defBody (top 30)) (defScope (top 30)) [] [] (He.ga K "_law_rows") fd := F0
  refine ⟨fd, F, FunD.bindsN F (ps := ["_law_picture_here", "_law_spacing"]) fun _ _ _ _ _ _ us hl => match us, hl with | [_, _], _ => rfl, FunD.bindsA F (ps := ["_law_picture_here", "_law_spacing"]) fun _ _ _ _ _ _ us hl => match us, hl with | [_, _], _ => rfl, FnG.den (N := N__law_rows) false F sc__law_rows fun cdv A outer s H E hr hgd => PSs.nox ?_⟩
  have nd : N__law_rows.Nodup := sc__law_rows.nd
  have hu1 : (A.deeper (envOfC "_law_rows" (defScope (top 30)) s.heap.objs.size (He.ga K "_law_rows") cdv)).units + 1 < cLine := by have := hr.un; omega
  have hu64 : (A.deeper (envOfC "_law_rows" (defScope (top 30)) s.heap.objs.size (He.ga K "_law_rows") cdv)).units + 64 < cLine := by have := hr.un; omega
  have hu65 : (A.deeper (envOfC "_law_rows" (defScope (top 30)) s.heap.objs.size (He.ga K "_law_rows") cdv)).units + 65 < cLine := by have := hr.un; omega
  exact dss_cons (ds_set (i := 2) nd rfl (.inl rfl) (de_lstM (da_nil)) rfl (.inl rfl)) (dss_cons (ds_for PassesOwn.never rfl (di_seq (de_var (i := 0) rfl (.inl rfl) (nd__law_picture_here).1 (nd__law_picture_here).2)) (dg_name (i := 3) nd rfl (.inr rfl) (.inl rfl)) (dss_cons (ds_set (i := 4) nd rfl (.inr rfl) (de_lc (own := [("_law_other", 5), ("_law_row", 6)]) { hc := rfl, hN := nd, hi := di_zip rfl (g_zip T) (da_cons (de_var (i := 0) rfl (.inl rfl) (nd__law_picture_here).1 (nd__law_picture_here).2) (da_cons (de_var (i := 2) rfl (.inl rfl) (nd__law_found).1 (nd__law_found).2) (da_nil) rfl) rfl) rfl rfl, ok := blkOk_by (N := N__law_rows) (sc := defScope (top 30)) (by decide +kernel), hg := fun _ _ _ _ _ => dv_tup rfl (dvs_cons (dv_name (i := 5) nd rfl (.inl rfl) (.inr rfl) (by decide)) (dvs_cons (dv_name (i := 6) nd rfl (.inl rfl) (.inr rfl) (by decide)) (dvs_nil) rfl) rfl) rfl rfl, ht := fun _ _ _ _ _ => dts_one (dt_cmp op_ltP (de_callB (cr_P cr_absG) rfl (g_abs T) bt_abs (da_cons (de_op op_subP (de_ix hu1 (de_var (i := 5) rfl (.inl rfl) (nd__law_other).1 (nd__law_other).2) (de_int) (fun _ _ => rfl)) (de_ix hu1 (de_var (i := 3) rfl (.inr (.inl rfl)) (nd__law_lamp).1 (nd__law_lamp).2) (de_int) (fun _ _ => rfl))) (da_nil) rfl) (by decide) (nd_abs).1 rfl rfl) (de_var (i := 1) rfl (.inr (.inl rfl)) (nd__law_spacing).1 (nd__law_spacing).2) (nomark _)), he := fun _ _ _ _ _ => de_var (i := 6) rfl (.inl rfl) (nd__law_row).1 (nd__law_row).2, hs := fun _ => rfl }) rfl (.inl rfl)) (dss_cons (ds_expr (de_mt PySem.F.slot_list_append PySem.F.type_list_append m_app (de_var (i := 2) rfl (.inl rfl) (nd__law_found).1 (nd__law_found).2) (da_cons (de_ix hu1 (de_lc (own := [("_law_row", 6)]) { hc := rfl, hN := nd, hi := di_range1 rfl (g_range T) (da_cons (de_op op_addP (de_callB (cr_P cr_lenG) rfl (g_len T) bt_len (da_cons (de_var (i := 0) rfl (.inl rfl) (nd__law_picture_here).1 (nd__law_picture_here).2) (da_nil) rfl) (by decide) (nd_len).1 rfl rfl) (de_int)) (da_nil) rfl) rfl, ok := blkOk_by (N := N__law_rows) (sc := defScope (top 30)) (by decide +kernel), hg := fun _ _ _ _ _ => dv_name (i := 6) nd rfl (.inl rfl) (.inr rfl) (by decide), ht := fun _ _ _ _ _ => dts_one (dt_cmp (op_ninP hu64) (de_var (i := 6) rfl (.inl rfl) (nd__law_row).1 (nd__law_row).2) (de_var (i := 4) rfl (.inr (.inl rfl)) (nd__law_taken).1 (nd__law_taken).2) rfl), he := fun _ _ _ _ _ => de_var (i := 6) rfl (.inl rfl) (nd__law_row).1 (nd__law_row).2, hs := fun _ => rfl }) (de_int) (fun _ _ => rfl)) (da_nil) rfl) rfl rfl rfl rfl rfl) rfl) (dss_nil))) (fun _ => rfl)) (dss_cons (ds_ret (de_var (i := 2) rfl (.inl rfl) (nd__law_found).1 (nd__law_found).2)) (dss_nil)))
abbrev N_added : List Str := ["one", "other"]
theorem sc_added : FnScope N_added ["one", "other"] (defScope (top 3)) := ⟨rfl, rfl, rfl, by decide +kernel, rfl, by decide +kernel, by decide +kernel⟩
theorem ok_added (T : Top K mg) : Good P wd K mg base "added" 3 ["one", "other"] 2 c_added := by
  obtain ⟨fd, F0⟩ := T.says.d.def_ 1 (d := dOf "added" 3) rfl
  have F : FunD K "added" "added" (defArgs (top 3)) (defBody (top 3)) (defScope (top 3)) [] [] (He.ga K "added") fd := F0
  refine ⟨fd, F, FunD.bindsN F (ps := ["one", "other"]) fun _ _ _ _ _ _ us hl => match us, hl with | [_, _], _ => rfl, FunD.bindsA F (ps := ["one", "other"]) fun _ _ _ _ _ _ us hl => match us, hl with | [_, _], _ => rfl, FnG.den (N := N_added) false F sc_added fun cdv A outer s H E hr hgd => PSs.nox ?_⟩
  have nd : N_added.Nodup := sc_added.nd
  have hu1 : (A.deeper (envOfC "added" (defScope (top 3)) s.heap.objs.size (He.ga K "added") cdv)).units + 1 < cLine := by have := hr.un; omega
  have hu64 : (A.deeper (envOfC "added" (defScope (top 3)) s.heap.objs.size (He.ga K "added") cdv)).units + 64 < cLine := by have := hr.un; omega
  have hu65 : (A.deeper (envOfC "added" (defScope (top 3)) s.heap.objs.size (He.ga K "added") cdv)).units + 65 < cLine := by have := hr.un; omega
  obtain ⟨fd_reduced, F_reduced, b_reduced, _, G_reduced⟩ := ok_reduced (P := P) (wd := wd) (base := base) T
  exact dss_cons (ds_ret (de_call (ps := ["n", "d"]) G_reduced (hr.mono (by decide)) hgd rfl (g_reduced T) F_reduced.kp b_reduced (da_cons (de_op op_addP (de_op op_mulP (de_ix hu1 (de_var (i := 0) rfl (.inl rfl) (nd_one).1 (nd_one).2) (de_int) (fun _ _ => rfl)) (de_ix hu1 (de_var (i := 1) rfl (.inl rfl) (nd_other).1 (nd_other).2) (de_int) (fun _ _ => rfl))) (de_op op_mulP (de_ix hu1 (de_var (i := 1) rfl (.inl rfl) (nd_other).1 (nd_other).2) (de_int) (fun _ _ => rfl)) (de_ix hu1 (de_var (i := 0) rfl (.inl rfl) (nd_one).1 (nd_one).2) (de_int) (fun _ _ => rfl)))) (da_cons (de_op op_mulP (de_ix hu1 (de_var (i := 0) rfl (.inl rfl) (nd_one).1 (nd_one).2) (de_int) (fun _ _ => rfl)) (de_ix hu1 (de_var (i := 1) rfl (.inl rfl) (nd_other).1 (nd_other).2) (de_int) (fun _ _ => rfl))) (da_nil) rfl) rfl) (nd_reduced).1 rfl rfl)) (dss_nil)
abbrev N_least_of : List Str := ["fractions", "found", "one"]
theorem sc_least_of : FnScope N_least_of ["fractions"] (defScope (top 5)) := ⟨rfl, rfl, rfl, by decide +kernel, rfl, by decide +kernel, by decide +kernel⟩
theorem ok_least_of (T : Top K mg) : Good P wd K mg base "least_of" 5 ["fractions"] 2 c_least_of := by
  obtain ⟨fd, F0⟩ := T.says.d.def_ 3 (d := dOf "least_of" 5) rfl
  have F : FunD K "least_of" "least_of" (defArgs (top 5)) (defBody (top 5)) (defScope (top 5)) [] [] (He.ga K "least_of") fd := F0
  refine ⟨fd, F, FunD.bindsN F (ps := ["fractions"]) fun _ _ _ _ _ _ us hl => match us, hl with | [_], _ => rfl, FunD.bindsA F (ps := ["fractions"]) fun _ _ _ _ _ _ us hl => match us, hl with | [_], _ => rfl, FnG.den (N := N_least_of) false F sc_least_of fun cdv A outer s H E hr hgd => PSs.nox ?_⟩
  have nd : N_least_of.Nodup := sc_least_of.nd
  have hu1 : (A.deeper (envOfC "least_of" (defScope (top 5)) s.heap.objs.size (He.ga K "least_of") cdv)).units + 1 < cLine := by have := hr.un; omega
  have hu64 : (A.deeper (envOfC "least_of" (defScope (top 5)) s.heap.objs.size (He.ga K "least_of") cdv)).units + 64 < cLine := by have := hr.un; omega
  have hu65 : (A.deeper (envOfC "least_of" (defScope (top 5)) s.heap.objs.size (He.ga K "least_of") cdv)).units + 65 < cLine := by have := hr.un; omega
  obtain ⟨fd_compared, F_compared, b_compared, _, G_compared⟩ := ok_compared (P := P) (wd := wd) (base := base) T
  exact dss_cons (ds_set (i := 1) nd rfl (.inl rfl) (de_ix hu1 (de_var (i := 0) rfl (.inl rfl) (nd_fractions).1 (nd_fractions).2) (de_int) (fun _ _ => rfl)) rfl (.inl rfl)) (dss_cons (ds_for PassesOwn.never rfl (di_seq (de_var (i := 0) rfl (.inl rfl) (nd_fractions).1 (nd_fractions).2)) (dg_name (i := 2) nd rfl (.inl rfl) (.inl rfl)) (dss_cons (ds_set (i := 1) nd rfl (.inl rfl) (de_if (dt_cmp op_ltP (de_call (ps := ["one", "other"]) G_compared (hr.mono (by decide)) hgd rfl (g_compared T) F_compared.kp b_compared (da_cons (de_var (i := 2) rfl (.inl rfl) (nd_one).1 (nd_one).2) (da_cons (de_var (i := 1) rfl (.inl rfl) (nd_found).1 (nd_found).2) (da_nil) rfl) rfl) (nd_compared).1 rfl rfl) (de_int) (nomark _)) (de_var (i := 2) rfl (.inl rfl) (nd_one).1 (nd_one).2) (de_var (i := 1) rfl (.inl rfl) (nd_found).1 (nd_found).2)) rfl (.inl rfl)) (dss_nil)) (fun _ => rfl)) (dss_cons (ds_ret (de_var (i := 1) rfl (.inl rfl) (nd_found).1 (nd_found).2)) (dss_nil)))
abbrev N_hold_needed : List Str := ["bounds"]
theorem sc_hold_needed : FnScope N_hold_needed ["bounds"] (defScope (top 9)) := ⟨rfl, rfl, rfl, by decide +kernel, rfl, by decide +kernel, by decide +kernel⟩
theorem ok_hold_needed (T : Top K mg) : Good P wd K mg base "hold_needed" 9 ["bounds"] 2 c_hold_needed := by
  obtain ⟨fd, F0⟩ := T.says.d.def_ 5 (d := dOf "hold_needed" 9) rfl
  have F : FunD K "hold_needed" "hold_needed" (defArgs (top 9)) (defBody (top 9)) (defScope (top 9)) [] [] (He.ga K "hold_needed") fd := F0
  refine ⟨fd, F, FunD.bindsN F (ps := ["bounds"]) fun _ _ _ _ _ _ us hl => match us, hl with | [_], _ => rfl, FunD.bindsA F (ps := ["bounds"]) fun _ _ _ _ _ _ us hl => match us, hl with | [_], _ => rfl, FnG.den (N := N_hold_needed) false F sc_hold_needed fun cdv A outer s H E hr hgd => PSs.nox ?_⟩
  have nd : N_hold_needed.Nodup := sc_hold_needed.nd
  have hu1 : (A.deeper (envOfC "hold_needed" (defScope (top 9)) s.heap.objs.size (He.ga K "hold_needed") cdv)).units + 1 < cLine := by have := hr.un; omega
  have hu64 : (A.deeper (envOfC "hold_needed" (defScope (top 9)) s.heap.objs.size (He.ga K "hold_needed") cdv)).units + 64 < cLine := by have := hr.un; omega
  have hu65 : (A.deeper (envOfC "hold_needed" (defScope (top 9)) s.heap.objs.size (He.ga K "hold_needed") cdv)).units + 65 < cLine := by have := hr.un; omega
  obtain ⟨fd_lag_of, F_lag_of, b_lag_of, _, G_lag_of⟩ := ok_lag_of (P := P) (wd := wd) (base := base) T
  exact dss_cons (ds_ret (de_op op_addP (de_op op_addP (de_op op_addP (de_call (ps := ["bounds"]) G_lag_of (hr.mono (by decide)) hgd rfl (g_lag_of T) F_lag_of.kp b_lag_of (da_cons (de_var (i := 0) rfl (.inl rfl) (nd_bounds).1 (nd_bounds).2) (da_nil) rfl) (nd_lag_of).1 rfl rfl) (de_ix hu1 (de_var (i := 0) rfl (.inl rfl) (nd_bounds).1 (nd_bounds).2) (de_int) (fun _ _ => rfl))) (de_op op_mulP (de_int) (de_ix hu1 (de_var (i := 0) rfl (.inl rfl) (nd_bounds).1 (nd_bounds).2) (de_int) (fun _ _ => rfl)))) (de_ix hu1 (de_var (i := 0) rfl (.inl rfl) (nd_bounds).1 (nd_bounds).2) (de_int) (fun _ _ => rfl)))) (dss_nil)
abbrev N__law_some : List Str := ["_law_bag_here", "_law_things"]
theorem sc__law_some : FnScope N__law_some ["_law_bag_here", "_law_things"] (defScope (top 18)) := ⟨rfl, rfl, rfl, by decide +kernel, rfl, by decide +kernel, by decide +kernel⟩
theorem ok__law_some (T : Top K mg) : Good P wd K mg base "_law_some" 18 ["_law_bag_here", "_law_things"] 2 c__law_some := by
  obtain ⟨fd, F0⟩ := T.says.d.def_ 12 (d := dOf "_law_some" 18) rfl
  have F : FunD K "_law_some" "_law_some" (defArgs (top 18)) (defBody (top 18)) (defScope (top 18)) [] [] (He.ga K "_law_some") fd := F0
  refine ⟨fd, F, FunD.bindsN F (ps := ["_law_bag_here", "_law_things"]) fun _ _ _ _ _ _ us hl => match us, hl with | [_, _], _ => rfl, FunD.bindsA F (ps := ["_law_bag_here", "_law_things"]) fun _ _ _ _ _ _ us hl => match us, hl with | [_, _], _ => rfl, FnG.den (N := N__law_some) false F sc__law_some fun cdv A outer s H E hr hgd => PSs.nox ?_⟩
  have nd : N__law_some.Nodup := sc__law_some.nd
  have hu1 : (A.deeper (envOfC "_law_some" (defScope (top 18)) s.heap.objs.size (He.ga K "_law_some") cdv)).units + 1 < cLine := by have := hr.un; omega
  have hu64 : (A.deeper (envOfC "_law_some" (defScope (top 18)) s.heap.objs.size (He.ga K "_law_some") cdv)).units + 64 < cLine := by have := hr.un; omega
  have hu65 : (A.deeper (envOfC "_law_some" (defScope (top 18)) s.heap.objs.size (He.ga K "_law_some") cdv)).units + 65 < cLine := by have := hr.un; omega
  obtain ⟨fd__law_take, F__law_take, b__law_take, _, G__law_take⟩ := ok__law_take (P := P) (wd := wd) (base := base) T
  exact dss_cons (ds_ret (de_ix hu1 (de_var (i := 1) rfl (.inl rfl) (nd__law_things).1 (nd__law_things).2) (de_call (ps := ["_law_bag_here", "_law_many"]) G__law_take (hr.mono (by decide)) hgd rfl (g__law_take T) F__law_take.kp b__law_take (da_cons (de_var (i := 0) rfl (.inl rfl) (nd__law_bag_here).1 (nd__law_bag_here).2) (da_cons (de_callB (cr_P cr_lenG) rfl (g_len T) bt_len (da_cons (de_var (i := 1) rfl (.inl rfl) (nd__law_things).1 (nd__law_things).2) (da_nil) rfl) (by decide) (nd_len).1 rfl rfl) (da_nil) rfl) rfl) (nd__law_take).1 rfl rfl) (fun _ _ => rfl))) (dss_nil)
abbrev N__law_added : List Str := ["_law_x", "_law_y"]
theorem sc__law_added : FnScope N__law_added ["_law_x", "_law_y"] (defScope (top 21)) := ⟨rfl, rfl, rfl, by decide +kernel, rfl, by decide +kernel, by decide +kernel⟩
theorem ok__law_added (T : Top K mg) : Good P wd K mg base "_law_added" 21 ["_law_x", "_law_y"] 2 c__law_added := by
  obtain ⟨fd, F0⟩ := T.says.d.def_ 15 (d := dOf "_law_added" 21) rfl
  have F : FunD K "_law_added" "_law_added" (defArgs (top 21)) (defBody (top 21)) (defScope (top 21)) [] [] (He.ga K "_law_added") fd := F0
  refine ⟨fd, F, FunD.bindsN F (ps := ["_law_x", "_law_y"]) fun _ _ _ _ _ _ us hl => match us, hl with | [_, _], _ => rfl, FunD.bindsA F (ps := ["_law_x", "_law_y"]) fun _ _ _ _ _ _ us hl => match us, hl with | [_, _], _ => rfl, FnG.den (N := N__law_added) false F sc__law_added fun cdv A outer s H E hr hgd => PSs.nox ?_⟩
  have nd : N__law_added.Nodup := sc__law_added.nd
  have hu1 : (A.deeper (envOfC "_law_added" (defScope (top 21)) s.heap.objs.size (He.ga K "_law_added") cdv)).units + 1 < cLine := by have := hr.un; omega
  have hu64 : (A.deeper (envOfC "_law_added" (defScope (top 21)) s.heap.objs.size (He.ga K "_law_added") cdv)).units + 64 < cLine := by have := hr.un; omega
  have hu65 : (A.deeper (envOfC "_law_added" (defScope (top 21)) s.heap.objs.size (He.ga K "_law_added") cdv)).units + 65 < cLine := by have := hr.un; omega
  obtain ⟨fd__law_over, F__law_over, b__law_over, _, G__law_over⟩ := ok__law_over (P := P) (wd := wd) (base := base) T
  exact dss_cons (ds_ret (de_call (ps := ["_law_n", "_law_d"]) G__law_over (hr.mono (by decide)) hgd rfl (g__law_over T) F__law_over.kp b__law_over (da_cons (de_op op_addP (de_op op_mulP (de_ix hu1 (de_var (i := 0) rfl (.inl rfl) (nd__law_x).1 (nd__law_x).2) (de_int) (fun _ _ => rfl)) (de_ix hu1 (de_var (i := 1) rfl (.inl rfl) (nd__law_y).1 (nd__law_y).2) (de_int) (fun _ _ => rfl))) (de_op op_mulP (de_ix hu1 (de_var (i := 1) rfl (.inl rfl) (nd__law_y).1 (nd__law_y).2) (de_int) (fun _ _ => rfl)) (de_ix hu1 (de_var (i := 0) rfl (.inl rfl) (nd__law_x).1 (nd__law_x).2) (de_int) (fun _ _ => rfl)))) (da_cons (de_op op_mulP (de_ix hu1 (de_var (i := 0) rfl (.inl rfl) (nd__law_x).1 (nd__law_x).2) (de_int) (fun _ _ => rfl)) (de_ix hu1 (de_var (i := 1) rfl (.inl rfl) (nd__law_y).1 (nd__law_y).2) (de_int) (fun _ _ => rfl))) (da_nil) rfl) rfl) (nd__law_over).1 rfl rfl)) (dss_nil)
abbrev N__law_is_enough : List Str := ["_law_bounds", "_law_ticks", "_law_spacing", "_law_reach_here", "_law_way", "_law_lag_here", "_law_left", "_law_right"]
theorem sc__law_is_enough : FnScope N__law_is_enough ["_law_bounds", "_law_ticks"] (defScope (top 25)) := ⟨rfl, rfl, rfl, by decide +kernel, rfl, by decide +kernel, by decide +kernel⟩
theorem ok__law_is_enough (T : Top K mg) : Good P wd K mg base "_law_is_enough" 25 ["_law_bounds", "_law_ticks"] 2 c__law_is_enough := by
  obtain ⟨fd, F0⟩ := T.says.d.def_ 19 (d := dOf "_law_is_enough" 25) rfl
  have F : FunD K "_law_is_enough" "_law_is_enough" (defArgs (top 25)) (defBody (top 25)) (defScope (top 25)) [] [] (He.ga K "_law_is_enough") fd := F0
  refine ⟨fd, F, FunD.bindsN F (ps := ["_law_bounds", "_law_ticks"]) fun _ _ _ _ _ _ us hl => match us, hl with | [_, _], _ => rfl, FunD.bindsA F (ps := ["_law_bounds", "_law_ticks"]) fun _ _ _ _ _ _ us hl => match us, hl with | [_, _], _ => rfl, FnG.den (N := N__law_is_enough) false F sc__law_is_enough fun cdv A outer s H E hr hgd => PSs.nox ?_⟩
  have nd : N__law_is_enough.Nodup := sc__law_is_enough.nd
  have hu1 : (A.deeper (envOfC "_law_is_enough" (defScope (top 25)) s.heap.objs.size (He.ga K "_law_is_enough") cdv)).units + 1 < cLine := by have := hr.un; omega
  have hu64 : (A.deeper (envOfC "_law_is_enough" (defScope (top 25)) s.heap.objs.size (He.ga K "_law_is_enough") cdv)).units + 64 < cLine := by have := hr.un; omega
  have hu65 : (A.deeper (envOfC "_law_is_enough" (defScope (top 25)) s.heap.objs.size (He.ga K "_law_is_enough") cdv)).units + 65 < cLine := by have := hr.un; omega
  obtain ⟨fd__law_reach, F__law_reach, b__law_reach, _, G__law_reach⟩ := ok__law_reach (P := P) (wd := wd) (base := base) T
  obtain ⟨fd__law_lag, F__law_lag, b__law_lag, _, G__law_lag⟩ := ok__law_lag (P := P) (wd := wd) (base := base) T
  exact dss_cons (ds_parN (is := [2, 3, 4, 5]) (n := 4) rfl (dgn_cons (i := 2) nd rfl (.inl rfl) (.inl rfl) (dgn_cons (i := 3) nd rfl (.inl rfl) (.inl rfl) (dgn_cons (i := 4) nd rfl (.inl rfl) (.inl rfl) (dgn_cons (i := 5) nd rfl (.inl rfl) (.inl rfl) (dgn_nil) rfl) rfl) rfl) rfl) (da_cons (de_ix hu1 (de_var (i := 0) rfl (.inl rfl) (nd__law_bounds).1 (nd__law_bounds).2) (de_int) (fun _ _ => rfl)) (da_cons (de_call (ps := ["_law_bounds"]) G__law_reach (hr.mono (by decide)) hgd rfl (g__law_reach T) F__law_reach.kp b__law_reach (da_cons (de_var (i := 0) rfl (.inl rfl) (nd__law_bounds).1 (nd__law_bounds).2) (da_nil) rfl) (nd__law_reach).1 rfl rfl) (da_cons (de_ix hu1 (de_var (i := 0) rfl (.inl rfl) (nd__law_bounds).1 (nd__law_bounds).2) (de_int) (fun _ _ => rfl)) (da_cons (de_call (ps := ["_law_bounds"]) G__law_lag (hr.mono (by decide)) hgd rfl (g__law_lag T) F__law_lag.kp b__law_lag (da_cons (de_var (i := 0) rfl (.inl rfl) (nd__law_bounds).1 (nd__law_bounds).2) (da_nil) rfl) (nd__law_lag).1 rfl rfl) (da_nil) rfl) rfl) rfl) rfl) rfl rfl rfl rfl rfl rfl) (dss_cons (ds_if (dt_cmp op_ltP (de_op op_mulP (de_var (i := 2) rfl (.inl rfl) (nd__law_spacing).1 (nd__law_spacing).2) (de_var (i := 2) rfl (.inl rfl) (nd__law_spacing).1 (nd__law_spacing).2)) (de_op op_mulP (de_op op_mulP (de_int) (de_var (i := 3) rfl (.inl rfl) (nd__law_reach_here).1 (nd__law_reach_here).2)) (de_var (i := 3) rfl (.inl rfl) (nd__law_reach_here).1 (nd__law_reach_here).2)) (nomark _)) (dss_cons (ds_ret (de_bl)) (dss_nil)) (dss_nil)) (dss_cons (ds_set (i := 6) nd rfl (.inl rfl) (de_op op_mulP (de_op op_mulP (de_op op_addP (de_op op_mulP (de_var (i := 2) rfl (.inl rfl) (nd__law_spacing).1 (nd__law_spacing).2) (de_var (i := 2) rfl (.inl rfl) (nd__law_spacing).1 (nd__law_spacing).2)) (de_op op_mulP (de_op op_mulP (de_int) (de_var (i := 3) rfl (.inl rfl) (nd__law_reach_here).1 (nd__law_reach_here).2)) (de_var (i := 3) rfl (.inl rfl) (nd__law_reach_here).1 (nd__law_reach_here).2))) (de_var (i := 1) rfl (.inl rfl) (nd__law_ticks).1 (nd__law_ticks).2)) (de_var (i := 1) rfl (.inl rfl) (nd__law_ticks).1 (nd__law_ticks).2)) rfl (.inl rfl)) (dss_cons (ds_set (i := 6) nd rfl (.inl rfl) (de_op op_subP (de_var (i := 6) rfl (.inl rfl) (nd__law_left).1 (nd__law_left).2) (de_op op_mulP (de_op op_mulP (de_var (i := 5) rfl (.inl rfl) (nd__law_lag_here).1 (nd__law_lag_here).2) (de_var (i := 5) rfl (.inl rfl) (nd__law_lag_here).1 (nd__law_lag_here).2)) (de_op op_subP (de_op op_mulP (de_op op_mulP (de_int) (de_var (i := 4) rfl (.inl rfl) (nd__law_way).1 (nd__law_way).2)) (de_var (i := 4) rfl (.inl rfl) (nd__law_way).1 (nd__law_way).2)) (de_op op_mulP (de_var (i := 2) rfl (.inl rfl) (nd__law_spacing).1 (nd__law_spacing).2) (de_var (i := 2) rfl (.inl rfl) (nd__law_spacing).1 (nd__law_spacing).2))))) rfl (.inl rfl)) (dss_cons (ds_set (i := 7) nd rfl (.inl rfl) (de_op op_mulP (de_op op_mulP (de_op op_mulP (de_op op_mulP (de_op op_mulP (de_op op_mulP (de_op op_mulP (de_op op_mulP (de_int) (de_var (i := 2) rfl (.inl rfl) (nd__law_spacing).1 (nd__law_spacing).2)) (de_var (i := 2) rfl (.inl rfl) (nd__law_spacing).1 (nd__law_spacing).2)) (de_var (i := 3) rfl (.inl rfl) (nd__law_reach_here).1 (nd__law_reach_here).2)) (de_var (i := 3) rfl (.inl rfl) (nd__law_reach_here).1 (nd__law_reach_here).2)) (de_var (i := 1) rfl (.inl rfl) (nd__law_ticks).1 (nd__law_ticks).2)) (de_var (i := 1) rfl (.inl rfl) (nd__law_ticks).1 (nd__law_ticks).2)) (de_var (i := 1) rfl (.inl rfl) (nd__law_ticks).1 (nd__law_ticks).2)) (de_var (i := 1) rfl (.inl rfl) (nd__law_ticks).1 (nd__law_ticks).2)) rfl (.inl rfl)) (dss_cons (ds_ret (de_and (de_cmp op_geP (de_var (i := 6) rfl (.inl rfl) (nd__law_left).1 (nd__law_left).2) (de_int) (nomark _)) (de_one (de_cmp op_geP (de_op op_mulP (de_var (i := 6) rfl (.inl rfl) (nd__law_left).1 (nd__law_left).2) (de_var (i := 6) rfl (.inl rfl) (nd__law_left).1 (nd__law_left).2)) (de_var (i := 7) rfl (.inl rfl) (nd__law_right).1 (nd__law_right).2) (nomark _))))) (dss_nil))))))
abbrev N__law_needed : List Str := ["_law_bounds"]
theorem sc__law_needed : FnScope N__law_needed ["_law_bounds"] (defScope (top 27)) := ⟨rfl, rfl, rfl, by decide +kernel, rfl, by decide +kernel, by decide +kernel⟩
theorem ok__law_needed (T : Top K mg) : Good P wd K mg base "_law_needed" 27 ["_law_bounds"] 2 c__law_needed := by
  obtain ⟨fd, F0⟩ := T.says.d.def_ 21 (d := dOf "_law_needed" 27) rfl
  have F : FunD K "_law_needed" "_law_needed" (defArgs (top 27)) (defBody (top 27)) (defScope (top 27)) [] [] (He.ga K "_law_needed") fd := F0
  refine ⟨fd, F, FunD.bindsN F (ps := ["_law_bounds"]) fun _ _ _ _ _ _ us hl => match us, hl with | [_], _ => rfl, FunD.bindsA F (ps := ["_law_bounds"]) fun _ _ _ _ _ _ us hl => match us, hl with | [_], _ => rfl, FnG.den (N := N__law_needed) false F sc__law_needed fun cdv A outer s H E hr hgd => PSs.nox ?_⟩
  have nd : N__law_needed.Nodup := sc__law_needed.nd
  have hu1 : (A.deeper (envOfC "_law_needed" (defScope (top 27)) s.heap.objs.size (He.ga K "_law_needed") cdv)).units + 1 < cLine := by have := hr.un; omega
  have hu64 : (A.deeper (envOfC "_law_needed" (defScope (top 27)) s.heap.objs.size (He.ga K "_law_needed") cdv)).units + 64 < cLine := by have := hr.un; omega
  have hu65 : (A.deeper (envOfC "_law_needed" (defScope (top 27)) s.heap.objs.size (He.ga K "_law_needed") cdv)).units + 65 < cLine := by have := hr.un; omega
  obtain ⟨fd__law_lag, F__law_lag, b__law_lag, _, G__law_lag⟩ := ok__law_lag (P := P) (wd := wd) (base := base) T
  exact dss_cons (ds_ret (de_op op_addP (de_op op_addP (de_op op_addP (de_call (ps := ["_law_bounds"]) G__law_lag (hr.mono (by decide)) hgd rfl (g__law_lag T) F__law_lag.kp b__law_lag (da_cons (de_var (i := 0) rfl (.inl rfl) (nd__law_bounds).1 (nd__law_bounds).2) (da_nil) rfl) (nd__law_lag).1 rfl rfl) (de_ix hu1 (de_var (i := 0) rfl (.inl rfl) (nd__law_bounds).1 (nd__law_bounds).2) (de_int) (fun _ _ => rfl))) (de_op op_mulP (de_int) (de_ix hu1 (de_var (i := 0) rfl (.inl rfl) (nd__law_bounds).1 (nd__law_bounds).2) (de_int) (fun _ _ => rfl)))) (de_ix hu1 (de_var (i := 0) rfl (.inl rfl) (nd__law_bounds).1 (nd__law_bounds).2) (de_int) (fun _ _ => rfl)))) (dss_nil)
abbrev N_timeline : List Str := ["show", "bounds", "pads", "charge", "scenes", "opens", "leaves", "found", "ticks", "hold", "picture", "arrives"]
theorem sc_timeline : FnScope N_timeline ["show"] (defScope (top 10)) := ⟨rfl, rfl, rfl, by decide +kernel, rfl, by decide +kernel, by decide +kernel⟩
theorem ok_timeline (T : Top K mg) : Good P wd K mg base "timeline" 10 ["show"] 3 c_timeline := by
  obtain ⟨fd, F0⟩ := T.says.d.def_ 6 (d := dOf "timeline" 10) rfl
  have F : FunD K "timeline" "timeline" (defArgs (top 10)) (defBody (top 10)) (defScope (top 10)) [] [] (He.ga K "timeline") fd := F0
  refine ⟨fd, F, FunD.bindsN F (ps := ["show"]) fun _ _ _ _ _ _ us hl => match us, hl with | [_], _ => rfl, FunD.bindsA F (ps := ["show"]) fun _ _ _ _ _ _ us hl => match us, hl with | [_], _ => rfl, FnG.den (N := N_timeline) false F sc_timeline fun cdv A outer s H E hr hgd => PSs.nox ?_⟩
  have nd : N_timeline.Nodup := sc_timeline.nd
  have hu1 : (A.deeper (envOfC "timeline" (defScope (top 10)) s.heap.objs.size (He.ga K "timeline") cdv)).units + 1 < cLine := by have := hr.un; omega
  have hu64 : (A.deeper (envOfC "timeline" (defScope (top 10)) s.heap.objs.size (He.ga K "timeline") cdv)).units + 64 < cLine := by have := hr.un; omega
  have hu65 : (A.deeper (envOfC "timeline" (defScope (top 10)) s.heap.objs.size (He.ga K "timeline") cdv)).units + 65 < cLine := by have := hr.un; omega
  obtain ⟨fd_hold_needed, F_hold_needed, b_hold_needed, _, G_hold_needed⟩ := ok_hold_needed (P := P) (wd := wd) (base := base) T
  exact dss_cons (ds_asg (de_var (i := 0) rfl (.inl rfl) (nd_show).1 (nd_show).2) (dg_tup rfl (dgs_cons (dg_name (i := 1) nd rfl (.inl rfl) (.inl rfl)) (dgs_cons (dg_name (i := 2) nd rfl (.inl rfl) (.inl rfl)) (dgs_cons (dg_name (i := 3) nd rfl (.inl rfl) (.inl rfl)) (dgs_cons (dg_name (i := 4) nd rfl (.inl rfl) (.inl rfl)) (dgs_nil) rfl) rfl) rfl) rfl) rfl rfl) rfl rfl rfl) (dss_cons (ds_par3 (i := 5) (j := 6) (k := 7) rfl nd rfl rfl rfl (by decide) (by decide) (by decide) rfl rfl rfl (da_cons (de_int) (da_cons (de_call (ps := ["bounds"]) G_hold_needed (hr.mono (by decide)) hgd rfl (g_hold_needed T) F_hold_needed.kp b_hold_needed (da_cons (de_var (i := 1) rfl (.inl rfl) (nd_bounds).1 (nd_bounds).2) (da_nil) rfl) (nd_hold_needed).1 rfl rfl) (da_cons (de_lstM (da_nil)) (da_nil) rfl) rfl) rfl) rfl rfl) (dss_cons (ds_for PassesOwn.never rfl (di_seq (de_var (i := 4) rfl (.inl rfl) (nd_scenes).1 (nd_scenes).2)) (dg_tup rfl (dgs_cons (dg_name (i := 8) nd rfl (.inl rfl) (.inl rfl)) (dgs_cons (dg_name (i := 9) nd rfl (.inl rfl) (.inl rfl)) (dgs_cons (dg_name (i := 10) nd rfl (.inl rfl) (.inl rfl)) (dgs_nil) rfl) rfl) rfl) rfl rfl) (dss_cons (ds_set (i := 11) nd rfl (.inl rfl) (de_op op_addP (de_var (i := 6) rfl (.inl rfl) (nd_leaves).1 (nd_leaves).2) (de_var (i := 8) rfl (.inl rfl) (nd_ticks).1 (nd_ticks).2)) rfl (.inl rfl)) (dss_cons (ds_expr (de_mt PySem.F.slot_list_append PySem.F.type_list_append m_app (de_var (i := 7) rfl (.inl rfl) (nd_found).1 (nd_found).2) (da_cons (de_tup (da_cons (de_var (i := 5) rfl (.inl rfl) (nd_opens).1 (nd_opens).2) (da_cons (de_var (i := 6) rfl (.inl rfl) (nd_leaves).1 (nd_leaves).2) (da_cons (de_var (i := 11) rfl (.inl rfl) (nd_arrives).1 (nd_arrives).2) (da_cons (de_op op_addP (de_var (i := 11) rfl (.inl rfl) (nd_arrives).1 (nd_arrives).2) (de_var (i := 9) rfl (.inl rfl) (nd_hold).1 (nd_hold).2)) (da_nil) rfl) rfl) rfl) rfl)) (da_nil) rfl) rfl rfl rfl rfl rfl) rfl) (dss_cons (ds_par2 (i := 5) (j := 6) rfl nd rfl rfl (by decide) rfl rfl (da_cons (de_var (i := 11) rfl (.inl rfl) (nd_arrives).1 (nd_arrives).2) (da_cons (de_op op_addP (de_var (i := 11) rfl (.inl rfl) (nd_arrives).1 (nd_arrives).2) (de_var (i := 9) rfl (.inl rfl) (nd_hold).1 (nd_hold).2)) (da_nil) rfl) rfl) rfl rfl) (dss_nil)))) (fun _ => rfl)) (dss_cons (ds_ret (de_callTy (cr_P cr_tupG) rfl (g_tuple T) bt_tuple (da_cons (de_var (i := 7) rfl (.inl rfl) (nd_found).1 (nd_found).2) (da_nil) rfl) (by decide) (nd_tuple).1 rfl rfl)) (dss_nil))))
abbrev N__law_first_enough : List Str := ["_law_bounds", "_law_most", "_law_low", "_law_high", "_law_turn", "_law_middle"]
theorem sc__law_first_enough : FnScope N__law_first_enough ["_law_bounds", "_law_most"] (defScope (top 26)) := ⟨rfl, rfl, rfl, by decide +kernel, rfl, by decide +kernel, by decide +kernel⟩
theorem ok__law_first_enough (T : Top K mg) : Good P wd K mg base "_law_first_enough" 26 ["_law_bounds", "_law_most"] 3 c__law_first_enough := by
  obtain ⟨fd, F0⟩ := T.says.d.def_ 20 (d := dOf "_law_first_enough" 26) rfl
  have F : FunD K "_law_first_enough" "_law_first_enough" (defArgs (top 26)) (defBody (top 26)) (defScope (top 26)) [] [] (He.ga K "_law_first_enough") fd := F0
  refine ⟨fd, F, FunD.bindsN F (ps := ["_law_bounds", "_law_most"]) fun _ _ _ _ _ _ us hl => match us, hl with | [_, _], _ => rfl, FunD.bindsA F (ps := ["_law_bounds", "_law_most"]) fun _ _ _ _ _ _ us hl => match us, hl with | [_, _], _ => rfl, FnG.den (N := N__law_first_enough) false F sc__law_first_enough fun cdv A outer s H E hr hgd => PSs.nox ?_⟩
  have nd : N__law_first_enough.Nodup := sc__law_first_enough.nd
  have hu1 : (A.deeper (envOfC "_law_first_enough" (defScope (top 26)) s.heap.objs.size (He.ga K "_law_first_enough") cdv)).units + 1 < cLine := by have := hr.un; omega
  have hu64 : (A.deeper (envOfC "_law_first_enough" (defScope (top 26)) s.heap.objs.size (He.ga K "_law_first_enough") cdv)).units + 64 < cLine := by have := hr.un; omega
  have hu65 : (A.deeper (envOfC "_law_first_enough" (defScope (top 26)) s.heap.objs.size (He.ga K "_law_first_enough") cdv)).units + 65 < cLine := by have := hr.un; omega
  obtain ⟨fd__law_lag, F__law_lag, b__law_lag, _, G__law_lag⟩ := ok__law_lag (P := P) (wd := wd) (base := base) T
  obtain ⟨fd__law_is_enough, F__law_is_enough, b__law_is_enough, _, G__law_is_enough⟩ := ok__law_is_enough (P := P) (wd := wd) (base := base) T
  exact dss_cons (ds_par2 (i := 2) (j := 3) rfl nd rfl rfl (by decide) rfl rfl (da_cons (de_callB (cr_P (cr_maxG rfl)) rfl (g_max T) bt_max (da_cons (de_int) (da_cons (de_call (ps := ["_law_bounds"]) G__law_lag (hr.mono (by decide)) hgd rfl (g__law_lag T) F__law_lag.kp b__law_lag (da_cons (de_var (i := 0) rfl (.inl rfl) (nd__law_bounds).1 (nd__law_bounds).2) (da_nil) rfl) (nd__law_lag).1 rfl rfl) (da_nil) rfl) rfl) (by decide) (nd_max).1 rfl rfl) (da_cons (de_var (i := 1) rfl (.inl rfl) (nd__law_most).1 (nd__law_most).2) (da_nil) rfl) rfl) rfl rfl) (dss_cons (ds_if (PW.pt (dw_or (dt_cmp op_gtP (de_var (i := 2) rfl (.inl rfl) (nd__law_low).1 (nd__law_low).2) (de_var (i := 3) rfl (.inl rfl) (nd__law_high).1 (nd__law_high).2) (nomark _)) (dw_or1 (dt_not (dt_val (de_call (ps := ["_law_bounds", "_law_ticks"]) G__law_is_enough (hr.mono (by decide)) hgd rfl (g__law_is_enough T) F__law_is_enough.kp b__law_is_enough (da_cons (de_var (i := 0) rfl (.inl rfl) (nd__law_bounds).1 (nd__law_bounds).2) (da_cons (de_var (i := 3) rfl (.inl rfl) (nd__law_high).1 (nd__law_high).2) (da_nil) rfl) rfl) (nd__law_is_enough).1 rfl rfl) (fun _ => rfl)))))) (dss_cons (ds_ret (de_non)) (dss_nil)) (dss_nil)) (dss_cons (ds_for PassesOwn.never rfl (di_range1 rfl (g_range T) (da_cons (de_int) (da_nil) rfl) rfl) (dg_name (i := 4) nd rfl (.inl rfl) (.inl rfl)) (dss_cons (ds_set (i := 5) nd rfl (.inl rfl) (de_op op_fdivP (de_op op_addP (de_var (i := 2) rfl (.inl rfl) (nd__law_low).1 (nd__law_low).2) (de_var (i := 3) rfl (.inl rfl) (nd__law_high).1 (nd__law_high).2)) (de_int)) rfl (.inl rfl)) (dss_cons (ds_if (PW.pt (dw_and (dt_cmp op_ltP (de_var (i := 2) rfl (.inl rfl) (nd__law_low).1 (nd__law_low).2) (de_var (i := 3) rfl (.inl rfl) (nd__law_high).1 (nd__law_high).2) (nomark _)) (dw_and1 (dt_val (de_call (ps := ["_law_bounds", "_law_ticks"]) G__law_is_enough (hr.mono (by decide)) hgd rfl (g__law_is_enough T) F__law_is_enough.kp b__law_is_enough (da_cons (de_var (i := 0) rfl (.inl rfl) (nd__law_bounds).1 (nd__law_bounds).2) (da_cons (de_var (i := 5) rfl (.inl rfl) (nd__law_middle).1 (nd__law_middle).2) (da_nil) rfl) rfl) (nd__law_is_enough).1 rfl rfl) (fun _ => rfl))))) (dss_cons (ds_set (i := 3) nd rfl (.inl rfl) (de_var (i := 5) rfl (.inl rfl) (nd__law_middle).1 (nd__law_middle).2) rfl (.inl rfl)) (dss_nil)) (dss_cons (ds_if (dt_cmp op_ltP (de_var (i := 2) rfl (.inl rfl) (nd__law_low).1 (nd__law_low).2) (de_var (i := 3) rfl (.inl rfl) (nd__law_high).1 (nd__law_high).2) (nomark _)) (dss_cons (ds_set (i := 2) nd rfl (.inl rfl) (de_op op_addP (de_var (i := 5) rfl (.inl rfl) (nd__law_middle).1 (nd__law_middle).2) (de_int)) rfl (.inl rfl)) (dss_nil)) (dss_nil)) (dss_nil))) (dss_nil))) (fun _ => rfl)) (dss_cons (ds_ret (de_var (i := 2) rfl (.inl rfl) (nd__law_low).1 (nd__law_low).2)) (dss_nil))))
abbrev N__law_times : List Str := ["_law_show_here", "_law_found", "_law_opens", "_law_leaves", "_law_ticks", "_law_hold", "_law_picture_here"]
theorem sc__law_times : FnScope N__law_times ["_law_show_here"] (defScope (top 28)) := ⟨rfl, rfl, rfl, by decide +kernel, rfl, by decide +kernel, by decide +kernel⟩
theorem ok__law_times (T : Top K mg) : Good P wd K mg base "_law_times" 28 ["_law_show_here"] 3 c__law_times := by
  obtain ⟨fd, F0⟩ := T.says.d.def_ 22 (d := dOf "_law_times" 28) rfl
  have F : FunD K "_law_times" "_law_times" (defArgs (top 28)) (defBody (top 28)) (defScope (top 28)) [] [] (He.ga K "_law_times") fd := F0
  refine ⟨fd, F, FunD.bindsN F (ps := ["_law_show_here"]) fun _ _ _ _ _ _ us hl => match us, hl with | [_], _ => rfl, FunD.bindsA F (ps := ["_law_show_here"]) fun _ _ _ _ _ _ us hl => match us, hl with | [_], _ => rfl, FnG.den (N := N__law_times) false F sc__law_times fun cdv A outer s H E hr hgd => PSs.nox ?_⟩
  have nd : N__law_times.Nodup := sc__law_times.nd
  have hu1 : (A.deeper (envOfC "_law_times" (defScope (top 28)) s.heap.objs.size (He.ga K "_law_times") cdv)).units + 1 < cLine := by have := hr.un; omega
  have hu64 : (A.deeper (envOfC "_law_times" (defScope (top 28)) s.heap.objs.size (He.ga K "_law_times") cdv)).units + 64 < cLine := by have := hr.un; omega
  have hu65 : (A.deeper (envOfC "_law_times" (defScope (top 28)) s.heap.objs.size (He.ga K "_law_times") cdv)).units + 65 < cLine := by have := hr.un; omega
  obtain ⟨fd__law_needed, F__law_needed, b__law_needed, _, G__law_needed⟩ := ok__law_needed (P := P) (wd := wd) (base := base) T
  exact dss_cons (ds_par3 (i := 1) (j := 2) (k := 3) rfl nd rfl rfl rfl (by decide) (by decide) (by decide) rfl rfl rfl (da_cons (de_lstM (da_nil)) (da_cons (de_int) (da_cons (de_call (ps := ["_law_bounds"]) G__law_needed (hr.mono (by decide)) hgd rfl (g__law_needed T) F__law_needed.kp b__law_needed (da_cons (de_ix hu1 (de_var (i := 0) rfl (.inl rfl) (nd__law_show_here).1 (nd__law_show_here).2) (de_int) (fun _ _ => rfl)) (da_nil) rfl) (nd__law_needed).1 rfl rfl) (da_nil) rfl) rfl) rfl) rfl rfl) (dss_cons (ds_for PassesOwn.never rfl (di_seq (de_ix hu1 (de_var (i := 0) rfl (.inl rfl) (nd__law_show_here).1 (nd__law_show_here).2) (de_int) (fun _ _ => rfl))) (dg_tup rfl (dgs_cons (dg_name (i := 4) nd rfl (.inl rfl) (.inl rfl)) (dgs_cons (dg_name (i := 5) nd rfl (.inl rfl) (.inl rfl)) (dgs_cons (dg_name (i := 6) nd rfl (.inl rfl) (.inl rfl)) (dgs_nil) rfl) rfl) rfl) rfl rfl) (dss_cons (ds_expr (de_mt PySem.F.slot_list_append PySem.F.type_list_append m_app (de_var (i := 1) rfl (.inl rfl) (nd__law_found).1 (nd__law_found).2) (da_cons (de_tup (da_cons (de_var (i := 2) rfl (.inl rfl) (nd__law_opens).1 (nd__law_opens).2) (da_cons (de_var (i := 3) rfl (.inl rfl) (nd__law_leaves).1 (nd__law_leaves).2) (da_cons (de_op op_addP (de_var (i := 3) rfl (.inl rfl) (nd__law_leaves).1 (nd__law_leaves).2) (de_var (i := 4) rfl (.inl rfl) (nd__law_ticks).1 (nd__law_ticks).2)) (da_cons (de_op op_addP (de_op op_addP (de_var (i := 3) rfl (.inl rfl) (nd__law_leaves).1 (nd__law_leaves).2) (de_var (i := 4) rfl (.inl rfl) (nd__law_ticks).1 (nd__law_ticks).2)) (de_var (i := 5) rfl (.inl rfl) (nd__law_hold).1 (nd__law_hold).2)) (da_nil) rfl) rfl) rfl) rfl)) (da_nil) rfl) rfl rfl rfl rfl rfl) rfl) (dss_cons (ds_par2 (i := 2) (j := 3) rfl nd rfl rfl (by decide) rfl rfl (da_cons (de_op op_addP (de_var (i := 3) rfl (.inl rfl) (nd__law_leaves).1 (nd__law_leaves).2) (de_var (i := 4) rfl (.inl rfl) (nd__law_ticks).1 (nd__law_ticks).2)) (da_cons (de_op op_addP (de_op op_addP (de_var (i := 3) rfl (.inl rfl) (nd__law_leaves).1 (nd__law_leaves).2) (de_var (i := 4) rfl (.inl rfl) (nd__law_ticks).1 (nd__law_ticks).2)) (de_var (i := 5) rfl (.inl rfl) (nd__law_hold).1 (nd__law_hold).2)) (da_nil) rfl) rfl) rfl rfl) (dss_nil))) (fun _ => rfl)) (dss_cons (ds_ret (de_var (i := 1) rfl (.inl rfl) (nd__law_found).1 (nd__law_found).2)) (dss_nil)))
abbrev N__law_picture : List Str := ["_law_bag_here", "_law_spacing", "_law_deep", "_law_most", "_law_lamps", "_law_turn", "_law_x", "_law_z", "_law_shades", "_law_picture_here", "_law_rows_here", "_law_key", "_law_lamp", "_law_row"]
theorem sc__law_picture : FnScope N__law_picture ["_law_bag_here", "_law_spacing", "_law_deep", "_law_most"] (defScope (top 31)) := ⟨rfl, rfl, rfl, by decide +kernel, rfl, by decide +kernel, by decide +kernel⟩
theorem ok__law_picture (T : Top K mg) : Good P wd K mg base "_law_picture" 31 ["_law_bag_here", "_law_spacing", "_law_deep", "_law_most"] 3 c__law_picture := by
  obtain ⟨fd, F0⟩ := T.says.d.def_ 25 (d := dOf "_law_picture" 31) rfl
  have F : FunD K "_law_picture" "_law_picture" (defArgs (top 31)) (defBody (top 31)) (defScope (top 31)) [] [] (He.ga K "_law_picture") fd := F0
  refine ⟨fd, F, FunD.bindsN F (ps := ["_law_bag_here", "_law_spacing", "_law_deep", "_law_most"]) fun _ _ _ _ _ _ us hl => match us, hl with | [_, _, _, _], _ => rfl, FunD.bindsA F (ps := ["_law_bag_here", "_law_spacing", "_law_deep", "_law_most"]) fun _ _ _ _ _ _ us hl => match us, hl with | [_, _, _, _], _ => rfl, FnG.den (N := N__law_picture) false F sc__law_picture fun cdv A outer s H E hr hgd => PSs.nox ?_⟩
  have nd : N__law_picture.Nodup := sc__law_picture.nd
  have hu1 : (A.deeper (envOfC "_law_picture" (defScope (top 31)) s.heap.objs.size (He.ga K "_law_picture") cdv)).units + 1 < cLine := by have := hr.un; omega
  have hu64 : (A.deeper (envOfC "_law_picture" (defScope (top 31)) s.heap.objs.size (He.ga K "_law_picture") cdv)).units + 64 < cLine := by have := hr.un; omega
  have hu65 : (A.deeper (envOfC "_law_picture" (defScope (top 31)) s.heap.objs.size (He.ga K "_law_picture") cdv)).units + 65 < cLine := by have := hr.un; omega
  obtain ⟨fd__law_some, F__law_some, b__law_some, _, G__law_some⟩ := ok__law_some (P := P) (wd := wd) (base := base) T
  obtain ⟨fd__law_take, F__law_take, b__law_take, _, G__law_take⟩ := ok__law_take (P := P) (wd := wd) (base := base) T
  obtain ⟨fd__law_rows, F__law_rows, b__law_rows, _, G__law_rows⟩ := ok__law_rows (P := P) (wd := wd) (base := base) T
  exact dss_cons (ds_set (i := 4) nd rfl (.inr rfl) (de_dctM) rfl (.inl rfl)) (dss_cons (ds_for PassesOwn.never rfl (di_range1 rfl (g_range T) (da_cons (de_var (i := 3) rfl (.inl rfl) (nd__law_most).1 (nd__law_most).2) (da_nil) rfl) rfl) (dg_name (i := 5) nd rfl (.inl rfl) (.inl rfl)) (dss_cons (ds_set (i := 6) nd rfl (.inl rfl) (de_call (ps := ["_law_bag_here", "_law_things"]) G__law_some (hr.mono (by decide)) hgd rfl (g__law_some T) F__law_some.kp b__law_some (da_cons (de_var (i := 0) rfl (.inl rfl) (nd__law_bag_here).1 (nd__law_bag_here).2) (da_cons (de_lst (da_cons (de_int) (da_cons (de_var (i := 1) rfl (.inl rfl) (nd__law_spacing).1 (nd__law_spacing).2) (da_cons (de_op op_mulP (de_int) (de_var (i := 1) rfl (.inl rfl) (nd__law_spacing).1 (nd__law_spacing).2)) (da_cons (de_call (ps := ["_law_bag_here", "_law_many"]) G__law_take (hr.mono (by decide)) hgd rfl (g__law_take T) F__law_take.kp b__law_take (da_cons (de_var (i := 0) rfl (.inl rfl) (nd__law_bag_here).1 (nd__law_bag_here).2) (da_cons (de_op op_addP (de_op op_mulP (de_int) (de_var (i := 1) rfl (.inl rfl) (nd__law_spacing).1 (nd__law_spacing).2)) (de_int)) (da_nil) rfl) rfl) (nd__law_take).1 rfl rfl) (da_cons (de_op op_subP (de_var (i := 1) rfl (.inl rfl) (nd__law_spacing).1 (nd__law_spacing).2) (de_int)) (da_nil) rfl) rfl) rfl) rfl) rfl)) (da_nil) rfl) rfl) (nd__law_some).1 rfl rfl) rfl (.inl rfl)) (dss_cons (ds_set (i := 7) nd rfl (.inl rfl) (de_call (ps := ["_law_bag_here", "_law_many"]) G__law_take (hr.mono (by decide)) hgd rfl (g__law_take T) F__law_take.kp b__law_take (da_cons (de_var (i := 0) rfl (.inl rfl) (nd__law_bag_here).1 (nd__law_bag_here).2) (da_cons (de_int) (da_nil) rfl) rfl) (nd__law_take).1 rfl rfl) rfl (.inl rfl)) (dss_cons (ds_set (i := 8) nd rfl (.inl rfl) (de_call (ps := ["_law_bag_here", "_law_things"]) G__law_some (hr.mono (by decide)) hgd rfl (g__law_some T) F__law_some.kp b__law_some (da_cons (de_var (i := 0) rfl (.inl rfl) (nd__law_bag_here).1 (nd__law_bag_here).2) (da_cons (de_lst (da_cons (de_tup (da_cons (de_str) (da_nil) rfl)) (da_cons (de_tup (da_cons (de_str) (da_cons (de_str) (da_nil) rfl) rfl)) (da_cons (de_tup (da_cons (de_str) (da_cons (de_str) (da_nil) rfl) rfl)) (da_cons (de_tup (da_cons (de_str) (da_cons (de_str) (da_cons (de_str) (da_nil) rfl) rfl) rfl)) (da_nil) rfl) rfl) rfl) rfl)) (da_nil) rfl) rfl) (nd__law_some).1 rfl rfl) rfl (.inl rfl)) (dss_cons (ds_if (dt_cmp op_gtP (de_call (ps := ["_law_bag_here", "_law_many"]) G__law_take (hr.mono (by decide)) hgd rfl (g__law_take T) F__law_take.kp b__law_take (da_cons (de_var (i := 0) rfl (.inl rfl) (nd__law_bag_here).1 (nd__law_bag_here).2) (da_cons (de_int) (da_nil) rfl) rfl) (nd__law_take).1 rfl rfl) (de_int) (nomark _)) (dss_cons (ds_asg (de_tup (da_cons (de_var (i := 6) rfl (.inl rfl) (nd__law_x).1 (nd__law_x).2) (da_cons (de_var (i := 7) rfl (.inl rfl) (nd__law_z).1 (nd__law_z).2) (da_cons (de_var (i := 8) rfl (.inl rfl) (nd__law_shades).1 (nd__law_shades).2) (da_cons (de_call (ps := ["_law_bag_here", "_law_many"]) G__law_take (hr.mono (by decide)) hgd rfl (g__law_take T) F__law_take.kp b__law_take (da_cons (de_var (i := 0) rfl (.inl rfl) (nd__law_bag_here).1 (nd__law_bag_here).2) (da_cons (de_int) (da_nil) rfl) rfl) (nd__law_take).1 rfl rfl) (da_nil) rfl) rfl) rfl) rfl)) (dg_sub (de_var (i := 4) rfl (.inr (.inl rfl)) (nd__law_lamps).1 (nd__law_lamps).2) (de_tup (da_cons (de_var (i := 6) rfl (.inl rfl) (nd__law_x).1 (nd__law_x).2) (da_cons (de_var (i := 7) rfl (.inl rfl) (nd__law_z).1 (nd__law_z).2) (da_nil) rfl) rfl)) (ps_wSet hu1) (fun _ => rfl)) rfl rfl rfl) (dss_nil)) (dss_nil)) (dss_nil))))) (fun _ => rfl)) (dss_cons (ds_setLc (i := 9) (own := [("_law_key", 11)]) { hc := rfl, hN := nd, hi := di_seq (de_callB (cr_N (cr_sortG rfl hu64) sortG_l) rfl (g_sorted T) bt_sorted (da_cons (de_var (i := 4) rfl (.inr (.inl rfl)) (nd__law_lamps).1 (nd__law_lamps).2) (da_nil) rfl) (by decide) (nd_sorted).1 rfl rfl), ok := blkOk_by (N := N__law_picture) (sc := defScope (top 31)) (by decide +kernel), hg := fun _ _ _ _ _ => dv_name (i := 11) nd rfl (.inl rfl) (.inr rfl) (by decide), ht := fun _ _ _ _ _ => dts_nil, he := fun _ _ _ _ _ => de_ix hu1 (de_var (i := 4) rfl (.inr (.inl rfl)) (nd__law_lamps).1 (nd__law_lamps).2) (de_var (i := 11) rfl (.inl rfl) (nd__law_key).1 (nd__law_key).2) (fun _ _ => rfl), hs := fun _ => rfl } rfl rfl rfl) (dss_cons (ds_set (i := 10) nd rfl (.inl rfl) (de_call (ps := ["_law_picture_here", "_law_spacing"]) G__law_rows (hr.mono (by decide)) hgd rfl (g__law_rows T) F__law_rows.kp b__law_rows (da_cons (de_var (i := 9) rfl (.inl rfl) (nd__law_picture_here).1 (nd__law_picture_here).2) (da_cons (de_var (i := 1) rfl (.inl rfl) (nd__law_spacing).1 (nd__law_spacing).2) (da_nil) rfl) rfl) (nd__law_rows).1 rfl rfl) rfl (.inl rfl)) (dss_cons (ds_ret (de_callTy (cr_P cr_tupG) rfl (g_tuple T) bt_tuple (da_cons (de_lc (own := [("_law_lamp", 12), ("_law_row", 13)]) { hc := rfl, hN := nd, hi := di_zip rfl (g_zip T) (da_cons (de_var (i := 9) rfl (.inl rfl) (nd__law_picture_here).1 (nd__law_picture_here).2) (da_cons (de_var (i := 10) rfl (.inl rfl) (nd__law_rows_here).1 (nd__law_rows_here).2) (da_nil) rfl) rfl) rfl rfl, ok := blkOk_by (N := N__law_picture) (sc := defScope (top 31)) (by decide +kernel), hg := fun _ _ _ _ _ => dv_tup rfl (dvs_cons (dv_name (i := 12) nd rfl (.inl rfl) (.inr rfl) (by decide)) (dvs_cons (dv_name (i := 13) nd rfl (.inl rfl) (.inr rfl) (by decide)) (dvs_nil) rfl) rfl) rfl rfl, ht := fun _ _ _ _ _ => dts_one (dt_cmp op_ltP (de_var (i := 13) rfl (.inl rfl) (nd__law_row).1 (nd__law_row).2) (de_var (i := 2) rfl (.inr (.inl rfl)) (nd__law_deep).1 (nd__law_deep).2) (nomark _)), he := fun _ _ _ _ _ => de_var (i := 12) rfl (.inl rfl) (nd__law_lamp).1 (nd__law_lamp).2, hs := fun _ => rfl }) (da_nil) rfl) (by decide) (nd_tuple).1 rfl rfl)) (dss_nil)))))
abbrev N__law_show_bounds : List Str := ["_law_bag_here", "_law_spacing", "_law_wind_here", "_law_top", "_law_near", "_law_clock", "_law_fall_here", "_law_way"]
theorem sc__law_show_bounds : FnScope N__law_show_bounds ["_law_bag_here"] (defScope (top 32)) := ⟨rfl, rfl, rfl, by decide +kernel, rfl, by decide +kernel, by decide +kernel⟩
theorem ok__law_show_bounds (T : Top K mg) : Good P wd K mg base "_law_show_bounds" 32 ["_law_bag_here"] 3 c__law_show_bounds := by
  obtain ⟨fd, F0⟩ := T.says.d.def_ 26 (d := dOf "_law_show_bounds" 32) rfl
  have F : FunD K "_law_show_bounds" "_law_show_bounds" (defArgs (top 32)) (defBody (top 32)) (defScope (top 32)) [] [] (He.ga K "_law_show_bounds") fd := F0
  refine ⟨fd, F, FunD.bindsN F (ps := ["_law_bag_here"]) fun _ _ _ _ _ _ us hl => match us, hl with | [_], _ => rfl, FunD.bindsA F (ps := ["_law_bag_here"]) fun _ _ _ _ _ _ us hl => match us, hl with | [_], _ => rfl, FnG.den (N := N__law_show_bounds) false F sc__law_show_bounds fun cdv A outer s H E hr hgd => PSs.nox ?_⟩
  have nd : N__law_show_bounds.Nodup := sc__law_show_bounds.nd
  have hu1 : (A.deeper (envOfC "_law_show_bounds" (defScope (top 32)) s.heap.objs.size (He.ga K "_law_show_bounds") cdv)).units + 1 < cLine := by have := hr.un; omega
  have hu64 : (A.deeper (envOfC "_law_show_bounds" (defScope (top 32)) s.heap.objs.size (He.ga K "_law_show_bounds") cdv)).units + 64 < cLine := by have := hr.un; omega
  have hu65 : (A.deeper (envOfC "_law_show_bounds" (defScope (top 32)) s.heap.objs.size (He.ga K "_law_show_bounds") cdv)).units + 65 < cLine := by have := hr.un; omega
  obtain ⟨fd__law_some, F__law_some, b__law_some, _, G__law_some⟩ := ok__law_some (P := P) (wd := wd) (base := base) T
  obtain ⟨fd__law_take, F__law_take, b__law_take, _, G__law_take⟩ := ok__law_take (P := P) (wd := wd) (base := base) T
  exact dss_cons (ds_set (i := 1) nd rfl (.inl rfl) (de_call (ps := ["_law_bag_here", "_law_things"]) G__law_some (hr.mono (by decide)) hgd rfl (g__law_some T) F__law_some.kp b__law_some (da_cons (de_var (i := 0) rfl (.inl rfl) (nd__law_bag_here).1 (nd__law_bag_here).2) (da_cons (de_lst (da_cons (de_int) (da_cons (de_int) (da_cons (de_int) (da_cons (de_int) (da_cons (de_int) (da_nil) rfl) rfl) rfl) rfl) rfl)) (da_nil) rfl) rfl) (nd__law_some).1 rfl rfl) rfl (.inl rfl)) (dss_cons (ds_set (i := 2) nd rfl (.inl rfl) (de_if (dt_cmp op_gtP (de_var (i := 1) rfl (.inl rfl) (nd__law_spacing).1 (nd__law_spacing).2) (de_int) (nomark _)) (de_call (ps := ["_law_bag_here", "_law_things"]) G__law_some (hr.mono (by decide)) hgd rfl (g__law_some T) F__law_some.kp b__law_some (da_cons (de_var (i := 0) rfl (.inl rfl) (nd__law_bag_here).1 (nd__law_bag_here).2) (da_cons (de_lst (da_cons (de_int) (da_cons (de_int) (da_cons (de_int) (da_nil) rfl) rfl) rfl)) (da_nil) rfl) rfl) (nd__law_some).1 rfl rfl) (de_int)) rfl (.inl rfl)) (dss_cons (ds_set (i := 3) nd rfl (.inl rfl) (de_callB (cr_P (cr_maxG rfl)) rfl (g_max T) bt_max (da_cons (de_int) (da_cons (de_op op_subP (de_op op_fdivP (de_op op_mulP (de_var (i := 1) rfl (.inl rfl) (nd__law_spacing).1 (nd__law_spacing).2) (de_int)) (de_int)) (de_op op_mulP (de_int) (de_var (i := 2) rfl (.inl rfl) (nd__law_wind_here).1 (nd__law_wind_here).2))) (da_nil) rfl) rfl) (by decide) (nd_max).1 rfl rfl) rfl (.inl rfl)) (dss_cons (ds_set (i := 4) nd rfl (.inl rfl) (de_call (ps := ["_law_bag_here", "_law_things"]) G__law_some (hr.mono (by decide)) hgd rfl (g__law_some T) F__law_some.kp b__law_some (da_cons (de_var (i := 0) rfl (.inl rfl) (nd__law_bag_here).1 (nd__law_bag_here).2) (da_cons (de_lst (da_cons (de_var (i := 3) rfl (.inl rfl) (nd__law_top).1 (nd__law_top).2) (da_cons (de_op op_addP (de_int) (de_call (ps := ["_law_bag_here", "_law_many"]) G__law_take (hr.mono (by decide)) hgd rfl (g__law_take T) F__law_take.kp b__law_take (da_cons (de_var (i := 0) rfl (.inl rfl) (nd__law_bag_here).1 (nd__law_bag_here).2) (da_cons (de_var (i := 3) rfl (.inl rfl) (nd__law_top).1 (nd__law_top).2) (da_nil) rfl) rfl) (nd__law_take).1 rfl rfl)) (da_nil) rfl) rfl)) (da_nil) rfl) rfl) (nd__law_some).1 rfl rfl) rfl (.inl rfl)) (dss_cons (ds_par2 (i := 5) (j := 6) rfl nd rfl rfl (by decide) rfl rfl (da_cons (de_call (ps := ["_law_bag_here", "_law_things"]) G__law_some (hr.mono (by decide)) hgd rfl (g__law_some T) F__law_some.kp b__law_some (da_cons (de_var (i := 0) rfl (.inl rfl) (nd__law_bag_here).1 (nd__law_bag_here).2) (da_cons (de_lst (da_cons (de_int) (da_cons (de_int) (da_cons (de_int) (da_nil) rfl) rfl) rfl)) (da_nil) rfl) rfl) (nd__law_some).1 rfl rfl) (da_cons (de_call (ps := ["_law_bag_here", "_law_things"]) G__law_some (hr.mono (by decide)) hgd rfl (g__law_some T) F__law_some.kp b__law_some (da_cons (de_var (i := 0) rfl (.inl rfl) (nd__law_bag_here).1 (nd__law_bag_here).2) (da_cons (de_lst (da_cons (de_int) (da_cons (de_int) (da_cons (de_int) (da_cons (de_int) (da_nil) rfl) rfl) rfl) rfl)) (da_nil) rfl) rfl) (nd__law_some).1 rfl rfl) (da_nil) rfl) rfl) rfl rfl) (dss_cons (ds_set (i := 7) nd rfl (.inl rfl) (de_op op_mulP (de_var (i := 1) rfl (.inl rfl) (nd__law_spacing).1 (nd__law_spacing).2) (de_call (ps := ["_law_bag_here", "_law_things"]) G__law_some (hr.mono (by decide)) hgd rfl (g__law_some T) F__law_some.kp b__law_some (da_cons (de_var (i := 0) rfl (.inl rfl) (nd__law_bag_here).1 (nd__law_bag_here).2) (da_cons (de_lst (da_cons (de_int) (da_cons (de_int) (da_cons (de_int) (da_cons (de_int) (da_cons (de_int) (da_cons (de_int) (da_cons (de_int) (da_nil) rfl) rfl) rfl) rfl) rfl) rfl) rfl)) (da_nil) rfl) rfl) (nd__law_some).1 rfl rfl)) rfl (.inl rfl)) (dss_cons (ds_ret (de_tup (da_cons (de_var (i := 1) rfl (.inl rfl) (nd__law_spacing).1 (nd__law_spacing).2) (da_cons (de_var (i := 4) rfl (.inl rfl) (nd__law_near).1 (nd__law_near).2) (da_cons (de_var (i := 2) rfl (.inl rfl) (nd__law_wind_here).1 (nd__law_wind_here).2) (da_cons (de_var (i := 5) rfl (.inl rfl) (nd__law_clock).1 (nd__law_clock).2) (da_cons (de_var (i := 6) rfl (.inl rfl) (nd__law_fall_here).1 (nd__law_fall_here).2) (da_cons (de_var (i := 7) rfl (.inl rfl) (nd__law_way).1 (nd__law_way).2) (da_cons (de_op op_addP (de_int) (de_call (ps := ["_law_bag_here", "_law_many"]) G__law_take (hr.mono (by decide)) hgd rfl (g__law_take T) F__law_take.kp b__law_take (da_cons (de_var (i := 0) rfl (.inl rfl) (nd__law_bag_here).1 (nd__law_bag_here).2) (da_cons (de_int) (da_nil) rfl) rfl) (nd__law_take).1 rfl rfl)) (da_cons (de_call (ps := ["_law_bag_here", "_law_many"]) G__law_take (hr.mono (by decide)) hgd rfl (g__law_take T) F__law_take.kp b__law_take (da_cons (de_var (i := 0) rfl (.inl rfl) (nd__law_bag_here).1 (nd__law_bag_here).2) (da_cons (de_int) (da_nil) rfl) rfl) (nd__law_take).1 rfl rfl) (da_cons (de_op op_addP (de_int) (de_call (ps := ["_law_bag_here", "_law_many"]) G__law_take (hr.mono (by decide)) hgd rfl (g__law_take T) F__law_take.kp b__law_take (da_cons (de_var (i := 0) rfl (.inl rfl) (nd__law_bag_here).1 (nd__law_bag_here).2) (da_cons (de_int) (da_nil) rfl) rfl) (nd__law_take).1 rfl rfl)) (da_nil) rfl) rfl) rfl) rfl) rfl) rfl) rfl) rfl) rfl))) (dss_nil)))))))
abbrev N__law_show_of : List Str := ["_law_bag_here", "_law_bounds", "_law_pads", "_law_scenes", "_law_more", "_law_full", "_law_holding", "_law_flying", "_law_ticks", "_law_hold", "_law_picture_here"]
theorem sc__law_show_of : FnScope N__law_show_of ["_law_bag_here", "_law_bounds", "_law_pads", "_law_scenes", "_law_more"] (defScope (top 33)) := ⟨rfl, rfl, rfl, by decide +kernel, rfl, by decide +kernel, by decide +kernel⟩
theorem ok__law_show_of (T : Top K mg) : Good P wd K mg base "_law_show_of" 33 ["_law_bag_here", "_law_bounds", "_law_pads", "_law_scenes", "_law_more"] 3 c__law_show_of := by
  obtain ⟨fd, F0⟩ := T.says.d.def_ 27 (d := dOf "_law_show_of" 33) rfl
  have F : FunD K "_law_show_of" "_law_show_of" (defArgs (top 33)) (defBody (top 33)) (defScope (top 33)) [] [] (He.ga K "_law_show_of") fd := F0
  refine ⟨fd, F, FunD.bindsN F (ps := ["_law_bag_here", "_law_bounds", "_law_pads", "_law_scenes", "_law_more"]) fun _ _ _ _ _ _ us hl => match us, hl with | [_, _, _, _, _], _ => rfl, FunD.bindsA F (ps := ["_law_bag_here", "_law_bounds", "_law_pads", "_law_scenes", "_law_more"]) fun _ _ _ _ _ _ us hl => match us, hl with | [_, _, _, _, _], _ => rfl, FnG.den (N := N__law_show_of) false F sc__law_show_of fun cdv A outer s H E hr hgd => PSs.nox ?_⟩
  have nd : N__law_show_of.Nodup := sc__law_show_of.nd
  have hu1 : (A.deeper (envOfC "_law_show_of" (defScope (top 33)) s.heap.objs.size (He.ga K "_law_show_of") cdv)).units + 1 < cLine := by have := hr.un; omega
  have hu64 : (A.deeper (envOfC "_law_show_of" (defScope (top 33)) s.heap.objs.size (He.ga K "_law_show_of") cdv)).units + 64 < cLine := by have := hr.un; omega
  have hu65 : (A.deeper (envOfC "_law_show_of" (defScope (top 33)) s.heap.objs.size (He.ga K "_law_show_of") cdv)).units + 65 < cLine := by have := hr.un; omega
  obtain ⟨fd__law_some, F__law_some, b__law_some, _, G__law_some⟩ := ok__law_some (P := P) (wd := wd) (base := base) T
  exact dss_cons (ds_par3 (i := 5) (j := 6) (k := 7) rfl nd rfl rfl rfl (by decide) (by decide) (by decide) rfl rfl rfl (da_cons (de_int) (da_cons (de_call (ps := ["_law_bag_here", "_law_things"]) G__law_some (hr.mono (by decide)) hgd rfl (g__law_some T) F__law_some.kp b__law_some (da_cons (de_var (i := 0) rfl (.inl rfl) (nd__law_bag_here).1 (nd__law_bag_here).2) (da_cons (de_lst (da_cons (de_int) (da_cons (de_int) (da_cons (de_int) (da_nil) rfl) rfl) rfl)) (da_nil) rfl) rfl) (nd__law_some).1 rfl rfl) (da_cons (de_call (ps := ["_law_bag_here", "_law_things"]) G__law_some (hr.mono (by decide)) hgd rfl (g__law_some T) F__law_some.kp b__law_some (da_cons (de_var (i := 0) rfl (.inl rfl) (nd__law_bag_here).1 (nd__law_bag_here).2) (da_cons (de_lst (da_cons (de_int) (da_cons (de_int) (da_cons (de_int) (da_nil) rfl) rfl) rfl)) (da_nil) rfl) rfl) (nd__law_some).1 rfl rfl) (da_nil) rfl) rfl) rfl) rfl rfl) (dss_cons (ds_for PassesOwn.never rfl (di_seq (de_var (i := 3) rfl (.inl rfl) (nd__law_scenes).1 (nd__law_scenes).2)) (dg_tup rfl (dgs_cons (dg_name (i := 8) nd rfl (.inl rfl) (.inl rfl)) (dgs_cons (dg_name (i := 9) nd rfl (.inl rfl) (.inl rfl)) (dgs_cons (dg_name (i := 10) nd rfl (.inl rfl) (.inl rfl)) (dgs_nil) rfl) rfl) rfl) rfl rfl) (dss_cons (ds_aug (i := 5) nd rfl (.inl rfl) (de_op op_addP (de_op op_mulP (de_var (i := 6) rfl (.inl rfl) (nd__law_holding).1 (nd__law_holding).2) (de_var (i := 9) rfl (.inl rfl) (nd__law_hold).1 (nd__law_hold).2)) (de_op op_mulP (de_callB (cr_P (cr_maxG rfl)) rfl (g_max T) bt_max (da_cons (de_var (i := 6) rfl (.inl rfl) (nd__law_holding).1 (nd__law_holding).2) (da_cons (de_var (i := 7) rfl (.inl rfl) (nd__law_flying).1 (nd__law_flying).2) (da_nil) rfl) rfl) (by decide) (nd_max).1 rfl rfl) (de_var (i := 8) rfl (.inl rfl) (nd__law_ticks).1 (nd__law_ticks).2))) ip_addP (.inl rfl)) (dss_nil)) (fun _ => rfl)) (dss_cons (ds_ret (de_tup (da_cons (de_var (i := 1) rfl (.inl rfl) (nd__law_bounds).1 (nd__law_bounds).2) (da_cons (de_callTy (cr_P cr_tupG) rfl (g_tuple T) bt_tuple (da_cons (de_var (i := 2) rfl (.inl rfl) (nd__law_pads).1 (nd__law_pads).2) (da_nil) rfl) (by decide) (nd_tuple).1 rfl rfl) (da_cons (de_tup (da_cons (de_op op_addP (de_var (i := 5) rfl (.inl rfl) (nd__law_full).1 (nd__law_full).2) (de_var (i := 4) rfl (.inl rfl) (nd__law_more).1 (nd__law_more).2)) (da_cons (de_var (i := 6) rfl (.inl rfl) (nd__law_holding).1 (nd__law_holding).2) (da_cons (de_var (i := 7) rfl (.inl rfl) (nd__law_flying).1 (nd__law_flying).2) (da_nil) rfl) rfl) rfl)) (da_cons (de_callTy (cr_P cr_tupG) rfl (g_tuple T) bt_tuple (da_cons (de_var (i := 3) rfl (.inl rfl) (nd__law_scenes).1 (nd__law_scenes).2) (da_nil) rfl) (by decide) (nd_tuple).1 rfl rfl) (da_nil) rfl) rfl) rfl) rfl))) (dss_nil)))
abbrev N__law_part : List Str := ["_law_bag_here", "_law_clock", "_law_some_here"]
theorem sc__law_part : FnScope N__law_part ["_law_bag_here", "_law_clock"] (defScope (top 35)) := ⟨rfl, rfl, rfl, by decide +kernel, rfl, by decide +kernel, by decide +kernel⟩
theorem ok__law_part (T : Top K mg) : Good P wd K mg base "_law_part" 35 ["_law_bag_here", "_law_clock"] 3 c__law_part := by
  obtain ⟨fd, F0⟩ := T.says.d.def_ 29 (d := dOf "_law_part" 35) rfl
  have F : FunD K "_law_part" "_law_part" (defArgs (top 35)) (defBody (top 35)) (defScope (top 35)) [] [] (He.ga K "_law_part") fd := F0
  refine ⟨fd, F, FunD.bindsN F (ps := ["_law_bag_here", "_law_clock"]) fun _ _ _ _ _ _ us hl => match us, hl with | [_, _], _ => rfl, FunD.bindsA F (ps := ["_law_bag_here", "_law_clock"]) fun _ _ _ _ _ _ us hl => match us, hl with | [_, _], _ => rfl, FnG.den (N := N__law_part) false F sc__law_part fun cdv A outer s H E hr hgd => PSs.nox ?_⟩
  have nd : N__law_part.Nodup := sc__law_part.nd
  have hu1 : (A.deeper (envOfC "_law_part" (defScope (top 35)) s.heap.objs.size (He.ga K "_law_part") cdv)).units + 1 < cLine := by have := hr.un; omega
  have hu64 : (A.deeper (envOfC "_law_part" (defScope (top 35)) s.heap.objs.size (He.ga K "_law_part") cdv)).units + 64 < cLine := by have := hr.un; omega
  have hu65 : (A.deeper (envOfC "_law_part" (defScope (top 35)) s.heap.objs.size (He.ga K "_law_part") cdv)).units + 65 < cLine := by have := hr.un; omega
  obtain ⟨fd__law_over, F__law_over, b__law_over, _, G__law_over⟩ := ok__law_over (P := P) (wd := wd) (base := base) T
  obtain ⟨fd__law_some, F__law_some, b__law_some, _, G__law_some⟩ := ok__law_some (P := P) (wd := wd) (base := base) T
  exact dss_cons (ds_set (i := 2) nd rfl (.inl rfl) (de_lst (da_cons (de_tup (da_cons (de_int) (da_cons (de_int) (da_nil) rfl) rfl)) (da_cons (de_tup (da_cons (de_var (i := 1) rfl (.inl rfl) (nd__law_clock).1 (nd__law_clock).2) (da_cons (de_int) (da_nil) rfl) rfl)) (da_cons (de_tup (da_cons (de_neg (de_var (i := 1) rfl (.inl rfl) (nd__law_clock).1 (nd__law_clock).2)) (da_cons (de_int) (da_nil) rfl) rfl)) (da_cons (de_call (ps := ["_law_n", "_law_d"]) G__law_over (hr.mono (by decide)) hgd rfl (g__law_over T) F__law_over.kp b__law_over (da_cons (de_var (i := 1) rfl (.inl rfl) (nd__law_clock).1 (nd__law_clock).2) (da_cons (de_int) (da_nil) rfl) rfl) (nd__law_over).1 rfl rfl) (da_cons (de_call (ps := ["_law_n", "_law_d"]) G__law_over (hr.mono (by decide)) hgd rfl (g__law_over T) F__law_over.kp b__law_over (da_cons (de_neg (de_var (i := 1) rfl (.inl rfl) (nd__law_clock).1 (nd__law_clock).2)) (da_cons (de_int) (da_nil) rfl) rfl) (nd__law_over).1 rfl rfl) (da_cons (de_call (ps := ["_law_n", "_law_d"]) G__law_over (hr.mono (by decide)) hgd rfl (g__law_over T) F__law_over.kp b__law_over (da_cons (de_op op_mulP (de_int) (de_var (i := 1) rfl (.inl rfl) (nd__law_clock).1 (nd__law_clock).2)) (da_cons (de_int) (da_nil) rfl) rfl) (nd__law_over).1 rfl rfl) (da_nil) rfl) rfl) rfl) rfl) rfl) rfl)) rfl (.inl rfl)) (dss_cons (ds_ret (de_call (ps := ["_law_bag_here", "_law_things"]) G__law_some (hr.mono (by decide)) hgd rfl (g__law_some T) F__law_some.kp b__law_some (da_cons (de_var (i := 0) rfl (.inl rfl) (nd__law_bag_here).1 (nd__law_bag_here).2) (da_cons (de_var (i := 2) rfl (.inl rfl) (nd__law_some_here).1 (nd__law_some_here).2) (da_nil) rfl) rfl) (nd__law_some).1 rfl rfl)) (dss_nil))
abbrev N__law_wind : List Str := ["_law_bag_here", "_law_wind_here", "_law_some_here"]
theorem sc__law_wind : FnScope N__law_wind ["_law_bag_here", "_law_wind_here"] (defScope (top 36)) := ⟨rfl, rfl, rfl, by decide +kernel, rfl, by decide +kernel, by decide +kernel⟩
theorem ok__law_wind (T : Top K mg) : Good P wd K mg base "_law_wind" 36 ["_law_bag_here", "_law_wind_here"] 3 c__law_wind := by
  obtain ⟨fd, F0⟩ := T.says.d.def_ 30 (d := dOf "_law_wind" 36) rfl
  have F : FunD K "_law_wind" "_law_wind" (defArgs (top 36)) (defBody (top 36)) (defScope (top 36)) [] [] (He.ga K "_law_wind") fd := F0
  refine ⟨fd, F, FunD.bindsN F (ps := ["_law_bag_here", "_law_wind_here"]) fun _ _ _ _ _ _ us hl => match us, hl with | [_, _], _ => rfl, FunD.bindsA F (ps := ["_law_bag_here", "_law_wind_here"]) fun _ _ _ _ _ _ us hl => match us, hl with | [_, _], _ => rfl, FnG.den (N := N__law_wind) false F sc__law_wind fun cdv A outer s H E hr hgd => PSs.nox ?_⟩
  have nd : N__law_wind.Nodup := sc__law_wind.nd
  have hu1 : (A.deeper (envOfC "_law_wind" (defScope (top 36)) s.heap.objs.size (He.ga K "_law_wind") cdv)).units + 1 < cLine := by have := hr.un; omega
  have hu64 : (A.deeper (envOfC "_law_wind" (defScope (top 36)) s.heap.objs.size (He.ga K "_law_wind") cdv)).units + 64 < cLine := by have := hr.un; omega
  have hu65 : (A.deeper (envOfC "_law_wind" (defScope (top 36)) s.heap.objs.size (He.ga K "_law_wind") cdv)).units + 65 < cLine := by have := hr.un; omega
  obtain ⟨fd__law_over, F__law_over, b__law_over, _, G__law_over⟩ := ok__law_over (P := P) (wd := wd) (base := base) T
  obtain ⟨fd__law_some, F__law_some, b__law_some, _, G__law_some⟩ := ok__law_some (P := P) (wd := wd) (base := base) T
  exact dss_cons (ds_set (i := 2) nd rfl (.inl rfl) (de_lstM (da_cons (de_tup (da_cons (de_tup (da_cons (de_int) (da_cons (de_int) (da_nil) rfl) rfl)) (da_cons (de_tup (da_cons (de_int) (da_cons (de_int) (da_nil) rfl) rfl)) (da_nil) rfl) rfl)) (da_cons (de_tup (da_cons (de_tup (da_cons (de_var (i := 1) rfl (.inl rfl) (nd__law_wind_here).1 (nd__law_wind_here).2) (da_cons (de_int) (da_nil) rfl) rfl)) (da_cons (de_tup (da_cons (de_int) (da_cons (de_int) (da_nil) rfl) rfl)) (da_nil) rfl) rfl)) (da_cons (de_tup (da_cons (de_tup (da_cons (de_int) (da_cons (de_int) (da_nil) rfl) rfl)) (da_cons (de_tup (da_cons (de_neg (de_var (i := 1) rfl (.inl rfl) (nd__law_wind_here).1 (nd__law_wind_here).2)) (da_cons (de_int) (da_nil) rfl) rfl)) (da_nil) rfl) rfl)) (da_nil) rfl) rfl) rfl)) rfl (.inl rfl)) (dss_cons (ds_expr (de_mt PySem.F.slot_list_append PySem.F.type_list_append m_app (de_var (i := 2) rfl (.inl rfl) (nd__law_some_here).1 (nd__law_some_here).2) (da_cons (de_tup (da_cons (de_call (ps := ["_law_n", "_law_d"]) G__law_over (hr.mono (by decide)) hgd rfl (g__law_over T) F__law_over.kp b__law_over (da_cons (de_op op_mulP (de_int) (de_var (i := 1) rfl (.inl rfl) (nd__law_wind_here).1 (nd__law_wind_here).2)) (da_cons (de_int) (da_nil) rfl) rfl) (nd__law_over).1 rfl rfl) (da_cons (de_call (ps := ["_law_n", "_law_d"]) G__law_over (hr.mono (by decide)) hgd rfl (g__law_over T) F__law_over.kp b__law_over (da_cons (de_op op_mulP (de_int) (de_var (i := 1) rfl (.inl rfl) (nd__law_wind_here).1 (nd__law_wind_here).2)) (da_cons (de_int) (da_nil) rfl) rfl) (nd__law_over).1 rfl rfl) (da_nil) rfl) rfl)) (da_nil) rfl) rfl rfl rfl rfl rfl) rfl) (dss_cons (ds_ret (de_call (ps := ["_law_bag_here", "_law_things"]) G__law_some (hr.mono (by decide)) hgd rfl (g__law_some T) F__law_some.kp b__law_some (da_cons (de_var (i := 0) rfl (.inl rfl) (nd__law_bag_here).1 (nd__law_bag_here).2) (da_cons (de_op op_addP (de_var (i := 2) rfl (.inl rfl) (nd__law_some_here).1 (nd__law_some_here).2) (de_lst (da_cons (de_tup (da_cons (de_call (ps := ["_law_n", "_law_d"]) G__law_over (hr.mono (by decide)) hgd rfl (g__law_over T) F__law_over.kp b__law_over (da_cons (de_neg (de_var (i := 1) rfl (.inl rfl) (nd__law_wind_here).1 (nd__law_wind_here).2)) (da_cons (de_int) (da_nil) rfl) rfl) (nd__law_over).1 rfl rfl) (da_cons (de_call (ps := ["_law_n", "_law_d"]) G__law_over (hr.mono (by decide)) hgd rfl (g__law_over T) F__law_over.kp b__law_over (da_cons (de_var (i := 1) rfl (.inl rfl) (nd__law_wind_here).1 (nd__law_wind_here).2) (da_cons (de_int) (da_nil) rfl) rfl) (nd__law_over).1 rfl rfl) (da_nil) rfl) rfl)) (da_cons (de_tup (da_cons (de_tup (da_cons (de_neg (de_var (i := 1) rfl (.inl rfl) (nd__law_wind_here).1 (nd__law_wind_here).2)) (da_cons (de_int) (da_nil) rfl) rfl)) (da_cons (de_tup (da_cons (de_int) (da_cons (de_int) (da_nil) rfl) rfl)) (da_nil) rfl) rfl)) (da_nil) rfl) rfl))) (da_nil) rfl) rfl) (nd__law_some).1 rfl rfl)) (dss_nil)))
abbrev N_fall_of : List Str := ["show", "night", "carrier", "falls", "errs", "winds", "lost", "found", "leaves"]
theorem sc_fall_of : FnScope N_fall_of ["show", "night", "carrier"] (defScope (top 13)) := ⟨rfl, rfl, rfl, by decide +kernel, rfl, by decide +kernel, by decide +kernel⟩
theorem ok_fall_of (T : Top K mg) : Good P wd K mg base "fall_of" 13 ["show", "night", "carrier"] 4 c_fall_of := by
  obtain ⟨fd, F0⟩ := T.says.d.def_ 8 (d := dOf "fall_of" 13) rfl
  have F : FunD K "fall_of" "fall_of" (defArgs (top 13)) (defBody (top 13)) (defScope (top 13)) [] [] (He.ga K "fall_of") fd := F0
  refine ⟨fd, F, FunD.bindsN F (ps := ["show", "night", "carrier"]) fun _ _ _ _ _ _ us hl => match us, hl with | [_, _, _], _ => rfl, FunD.bindsA F (ps := ["show", "night", "carrier"]) fun _ _ _ _ _ _ us hl => match us, hl with | [_, _, _], _ => rfl, FnG.den (N := N_fall_of) false F sc_fall_of fun cdv A outer s H E hr hgd => PSs.nox ?_⟩
  have nd : N_fall_of.Nodup := sc_fall_of.nd
  have hu1 : (A.deeper (envOfC "fall_of" (defScope (top 13)) s.heap.objs.size (He.ga K "fall_of") cdv)).units + 1 < cLine := by have := hr.un; omega
  have hu64 : (A.deeper (envOfC "fall_of" (defScope (top 13)) s.heap.objs.size (He.ga K "fall_of") cdv)).units + 64 < cLine := by have := hr.un; omega
  have hu65 : (A.deeper (envOfC "fall_of" (defScope (top 13)) s.heap.objs.size (He.ga K "fall_of") cdv)).units + 65 < cLine := by have := hr.un; omega
  obtain ⟨fd_timeline, F_timeline, b_timeline, _, G_timeline⟩ := ok_timeline (P := P) (wd := wd) (base := base) T
  obtain ⟨fd_lag_of, F_lag_of, b_lag_of, _, G_lag_of⟩ := ok_lag_of (P := P) (wd := wd) (base := base) T
  obtain ⟨fd_added, F_added, b_added, _, G_added⟩ := ok_added (P := P) (wd := wd) (base := base) T
  obtain ⟨fd_least_of, F_least_of, b_least_of, _, G_least_of⟩ := ok_least_of (P := P) (wd := wd) (base := base) T
  exact dss_cons (ds_asg (de_var (i := 1) rfl (.inl rfl) (nd_night).1 (nd_night).2) (dg_tup rfl (dgs_cons (dg_name (i := 3) nd rfl (.inl rfl) (.inl rfl)) (dgs_cons (dg_name (i := 4) nd rfl (.inl rfl) (.inl rfl)) (dgs_cons (dg_name (i := 5) nd rfl (.inl rfl) (.inl rfl)) (dgs_cons (dg_name (i := 6) nd rfl (.inl rfl) (.inl rfl)) (dgs_nil) rfl) rfl) rfl) rfl) rfl rfl) rfl rfl rfl) (dss_cons (ds_set (i := 7) nd rfl (.inl rfl) (de_if (dt_cmp (op_inP hu64) (de_var (i := 2) rfl (.inl rfl) (nd_carrier).1 (nd_carrier).2) (de_var (i := 3) rfl (.inl rfl) (nd_falls).1 (nd_falls).2) rfl) (de_lstM (da_cons (de_ix hu1 (de_var (i := 3) rfl (.inl rfl) (nd_falls).1 (nd_falls).2) (de_var (i := 2) rfl (.inl rfl) (nd_carrier).1 (nd_carrier).2) (fun _ _ => rfl)) (da_nil) rfl)) (de_lstM (da_nil))) rfl (.inl rfl)) (dss_cons (ds_if (dt_cmp (op_inP hu64) (de_var (i := 2) rfl (.inl rfl) (nd_carrier).1 (nd_carrier).2) (de_var (i := 6) rfl (.inl rfl) (nd_lost).1 (nd_lost).2) rfl) (dss_cons (ds_set (i := 8) nd rfl (.inl rfl) (de_op op_subP (de_ix hu1 (de_ix hu1 (de_call (ps := ["show"]) G_timeline (hr.mono (by decide)) hgd rfl (g_timeline T) F_timeline.kp b_timeline (da_cons (de_var (i := 0) rfl (.inl rfl) (nd_show).1 (nd_show).2) (da_nil) rfl) (nd_timeline).1 rfl rfl) (de_ix hu1 (de_var (i := 6) rfl (.inl rfl) (nd_lost).1 (nd_lost).2) (de_var (i := 2) rfl (.inl rfl) (nd_carrier).1 (nd_carrier).2) (fun _ _ => rfl)) (fun _ _ => rfl)) (de_int) (fun _ _ => rfl)) (de_call (ps := ["bounds"]) G_lag_of (hr.mono (by decide)) hgd rfl (g_lag_of T) F_lag_of.kp b_lag_of (da_cons (de_ix hu1 (de_var (i := 0) rfl (.inl rfl) (nd_show).1 (nd_show).2) (de_int) (fun _ _ => rfl)) (da_nil) rfl) (nd_lag_of).1 rfl rfl)) rfl (.inl rfl)) (dss_cons (ds_expr (de_mt PySem.F.slot_list_append PySem.F.type_list_append m_app (de_var (i := 7) rfl (.inl rfl) (nd_found).1 (nd_found).2) (da_cons (de_call (ps := ["one", "other"]) G_added (hr.mono (by decide)) hgd rfl (g_added T) F_added.kp b_added (da_cons (de_tup (da_cons (de_var (i := 8) rfl (.inl rfl) (nd_leaves).1 (nd_leaves).2) (da_cons (de_int) (da_nil) rfl) rfl)) (da_cons (de_ix hu1 (de_ix hu1 (de_var (i := 4) rfl (.inl rfl) (nd_errs).1 (nd_errs).2) (de_var (i := 2) rfl (.inl rfl) (nd_carrier).1 (nd_carrier).2) (fun _ _ => rfl)) (de_ix hu1 (de_var (i := 6) rfl (.inl rfl) (nd_lost).1 (nd_lost).2) (de_var (i := 2) rfl (.inl rfl) (nd_carrier).1 (nd_carrier).2) (fun _ _ => rfl)) (fun _ _ => rfl)) (da_nil) rfl) rfl) (nd_added).1 rfl rfl) (da_nil) rfl) rfl rfl rfl rfl rfl) rfl) (dss_nil))) (dss_nil)) (dss_cons (ds_ret (de_if (dt_cmp (op_neP hu64) (de_var (i := 7) rfl (.inl rfl) (nd_found).1 (nd_found).2) (de_lst (da_nil)) (nomark _)) (de_call (ps := ["fractions"]) G_least_of (hr.mono (by decide)) hgd rfl (g_least_of T) F_least_of.kp b_least_of (da_cons (de_var (i := 7) rfl (.inl rfl) (nd_found).1 (nd_found).2) (da_nil) rfl) (nd_least_of).1 rfl rfl) (de_non))) (dss_nil))))
abbrev N__law_writing : List Str := ["_law_show_here", "_law_scene", "_law_bounds"]
theorem sc__law_writing : FnScope N__law_writing ["_law_show_here", "_law_scene"] (defScope (top 29)) := ⟨rfl, rfl, rfl, by decide +kernel, rfl, by decide +kernel, by decide +kernel⟩
theorem ok__law_writing (T : Top K mg) : Good P wd K mg base "_law_writing" 29 ["_law_show_here", "_law_scene"] 4 c__law_writing := by
  obtain ⟨fd, F0⟩ := T.says.d.def_ 23 (d := dOf "_law_writing" 29) rfl
  have F : FunD K "_law_writing" "_law_writing" (defArgs (top 29)) (defBody (top 29)) (defScope (top 29)) [] [] (He.ga K "_law_writing") fd := F0
  refine ⟨fd, F, FunD.bindsN F (ps := ["_law_show_here", "_law_scene"]) fun _ _ _ _ _ _ us hl => match us, hl with | [_, _], _ => rfl, FunD.bindsA F (ps := ["_law_show_here", "_law_scene"]) fun _ _ _ _ _ _ us hl => match us, hl with | [_, _], _ => rfl, FnG.den (N := N__law_writing) false F sc__law_writing fun cdv A outer s H E hr hgd => PSs.nox ?_⟩
  have nd : N__law_writing.Nodup := sc__law_writing.nd
  have hu1 : (A.deeper (envOfC "_law_writing" (defScope (top 29)) s.heap.objs.size (He.ga K "_law_writing") cdv)).units + 1 < cLine := by have := hr.un; omega
  have hu64 : (A.deeper (envOfC "_law_writing" (defScope (top 29)) s.heap.objs.size (He.ga K "_law_writing") cdv)).units + 64 < cLine := by have := hr.un; omega
  have hu65 : (A.deeper (envOfC "_law_writing" (defScope (top 29)) s.heap.objs.size (He.ga K "_law_writing") cdv)).units + 65 < cLine := by have := hr.un; omega
  obtain ⟨fd__law_times, F__law_times, b__law_times, _, G__law_times⟩ := ok__law_times (P := P) (wd := wd) (base := base) T
  obtain ⟨fd__law_lag, F__law_lag, b__law_lag, _, G__law_lag⟩ := ok__law_lag (P := P) (wd := wd) (base := base) T
  exact dss_cons (ds_set (i := 2) nd rfl (.inl rfl) (de_ix hu1 (de_var (i := 0) rfl (.inl rfl) (nd__law_show_here).1 (nd__law_show_here).2) (de_int) (fun _ _ => rfl)) rfl (.inl rfl)) (dss_cons (ds_ret (de_op op_subP (de_op op_subP (de_op op_subP (de_op op_subP (de_ix hu1 (de_ix hu1 (de_call (ps := ["_law_show_here"]) G__law_times (hr.mono (by decide)) hgd rfl (g__law_times T) F__law_times.kp b__law_times (da_cons (de_var (i := 0) rfl (.inl rfl) (nd__law_show_here).1 (nd__law_show_here).2) (da_nil) rfl) (nd__law_times).1 rfl rfl) (de_var (i := 1) rfl (.inl rfl) (nd__law_scene).1 (nd__law_scene).2) (fun _ _ => rfl)) (de_int) (fun _ _ => rfl)) (de_call (ps := ["_law_bounds"]) G__law_lag (hr.mono (by decide)) hgd rfl (g__law_lag T) F__law_lag.kp b__law_lag (da_cons (de_var (i := 2) rfl (.inl rfl) (nd__law_bounds).1 (nd__law_bounds).2) (da_nil) rfl) (nd__law_lag).1 rfl rfl)) (de_ix hu1 (de_var (i := 2) rfl (.inl rfl) (nd__law_bounds).1 (nd__law_bounds).2) (de_int) (fun _ _ => rfl))) (de_ix hu1 (de_var (i := 2) rfl (.inl rfl) (nd__law_bounds).1 (nd__law_bounds).2) (de_int) (fun _ _ => rfl))) (de_ix hu1 (de_var (i := 2) rfl (.inl rfl) (nd__law_bounds).1 (nd__law_bounds).2) (de_int) (fun _ _ => rfl)))) (dss_nil))
abbrev N__law_show : List Str := ["_law_bag_here", "_law_most_pads", "_law_most_scenes", "_law_bounds", "_law_spacing", "_law_deep", "_law_nears", "_law_least", "_law_high", "_law_wide", "_law_pads", "_law_scenes", "_law_number", "_law_turn", "_law_hold", "_law_picture_here", "_law_one"]
theorem sc__law_show : FnScope N__law_show ["_law_bag_here", "_law_most_pads", "_law_most_scenes"] (defScope (top 34)) := ⟨rfl, rfl, rfl, by decide +kernel, rfl, by decide +kernel, by decide +kernel⟩
theorem ok__law_show (T : Top K mg) : Good P wd K mg base "_law_show" 34 ["_law_bag_here", "_law_most_pads", "_law_most_scenes"] 4 c__law_show := by
  obtain ⟨fd, F0⟩ := T.says.d.def_ 28 (d := dOf "_law_show" 34) rfl
  have F : FunD K "_law_show" "_law_show" (defArgs (top 34)) (defBody (top 34)) (defScope (top 34)) [] [] (He.ga K "_law_show") fd := F0
  refine ⟨fd, F, FunD.bindsN F (ps := ["_law_bag_here", "_law_most_pads", "_law_most_scenes"]) fun _ _ _ _ _ _ us hl => match us, hl with | [_, _, _], _ => rfl, FunD.bindsA F (ps := ["_law_bag_here", "_law_most_pads", "_law_most_scenes"]) fun _ _ _ _ _ _ us hl => match us, hl with | [_, _, _], _ => rfl, FnG.den (N := N__law_show) false F sc__law_show fun cdv A outer s H E hr hgd => PSs.nox ?_⟩
  have nd : N__law_show.Nodup := sc__law_show.nd
  have hu1 : (A.deeper (envOfC "_law_show" (defScope (top 34)) s.heap.objs.size (He.ga K "_law_show") cdv)).units + 1 < cLine := by have := hr.un; omega
  have hu64 : (A.deeper (envOfC "_law_show" (defScope (top 34)) s.heap.objs.size (He.ga K "_law_show") cdv)).units + 64 < cLine := by have := hr.un; omega
  have hu65 : (A.deeper (envOfC "_law_show" (defScope (top 34)) s.heap.objs.size (He.ga K "_law_show") cdv)).units + 65 < cLine := by have := hr.un; omega
  obtain ⟨fd__law_show_bounds, F__law_show_bounds, b__law_show_bounds, _, G__law_show_bounds⟩ := ok__law_show_bounds (P := P) (wd := wd) (base := base) T
  obtain ⟨fd__law_first_enough, F__law_first_enough, b__law_first_enough, _, G__law_first_enough⟩ := ok__law_first_enough (P := P) (wd := wd) (base := base) T
  obtain ⟨fd__law_take, F__law_take, b__law_take, _, G__law_take⟩ := ok__law_take (P := P) (wd := wd) (base := base) T
  obtain ⟨fd__law_needed, F__law_needed, b__law_needed, _, G__law_needed⟩ := ok__law_needed (P := P) (wd := wd) (base := base) T
  obtain ⟨fd__law_some, F__law_some, b__law_some, _, G__law_some⟩ := ok__law_some (P := P) (wd := wd) (base := base) T
  obtain ⟨fd__law_picture, F__law_picture, b__law_picture, _, G__law_picture⟩ := ok__law_picture (P := P) (wd := wd) (base := base) T
  obtain ⟨fd__law_show_of, F__law_show_of, b__law_show_of, _, G__law_show_of⟩ := ok__law_show_of (P := P) (wd := wd) (base := base) T
  exact dss_cons (ds_set (i := 3) nd rfl (.inr rfl) (de_call (ps := ["_law_bag_here"]) G__law_show_bounds (hr.mono (by decide)) hgd rfl (g__law_show_bounds T) F__law_show_bounds.kp b__law_show_bounds (da_cons (de_var (i := 0) rfl (.inl rfl) (nd__law_bag_here).1 (nd__law_bag_here).2) (da_nil) rfl) (nd__law_show_bounds).1 rfl rfl) rfl (.inl rfl)) (dss_cons (ds_parN (is := [4, 5]) (n := 2) rfl (dgn_cons (i := 4) nd rfl (.inr rfl) (.inl rfl) (dgn_cons (i := 5) nd rfl (.inl rfl) (.inl rfl) (dgn_nil) rfl) rfl) (da_cons (de_ix hu1 (de_var (i := 3) rfl (.inr (.inl rfl)) (nd__law_bounds).1 (nd__law_bounds).2) (de_int) (fun _ _ => rfl)) (da_cons (de_ix hu1 (de_var (i := 3) rfl (.inr (.inl rfl)) (nd__law_bounds).1 (nd__law_bounds).2) (de_int) (fun _ _ => rfl)) (da_nil) rfl) rfl) rfl rfl rfl rfl rfl rfl) (dss_cons (ds_set (i := 6) nd rfl (.inl rfl) (de_rl3 rfl rfl (g_list T) rfl (g_range T) (da_cons (de_ix hu1 (de_var (i := 3) rfl (.inr (.inl rfl)) (nd__law_bounds).1 (nd__law_bounds).2) (de_int) (fun _ _ => rfl)) (da_cons (de_int) (da_cons (de_neg (de_int)) (da_nil) rfl) rfl) rfl) rfl rfl rfl) rfl (.inl rfl)) (dss_cons (ds_setLc (i := 6) (own := [("_law_one", 16)]) { hc := rfl, hN := nd, hi := di_seq (de_var (i := 6) rfl (.inl rfl) (nd__law_nears).1 (nd__law_nears).2), ok := blkOk_by (N := N__law_show) (sc := defScope (top 34)) (by decide +kernel), hg := fun _ _ _ _ _ => dv_name (i := 16) nd rfl (.inl rfl) (.inr rfl) (by decide), ht := fun _ _ _ _ _ => dts_one (dt_cmp op_isntP (de_call (ps := ["_law_bounds", "_law_most"]) G__law_first_enough (hr.mono (by decide)) hgd rfl (g__law_first_enough T) F__law_first_enough.kp b__law_first_enough (da_cons (de_op op_addP (de_tup (da_cons (de_var (i := 4) rfl (.inr (.inl rfl)) (nd__law_spacing).1 (nd__law_spacing).2) (da_cons (de_var (i := 16) rfl (.inl rfl) (nd__law_one).1 (nd__law_one).2) (da_nil) rfl) rfl)) (de_sl (de_var (i := 3) rfl (.inr (.inl rfl)) (nd__law_bounds).1 (nd__law_bounds).2) (do_some (de_int)) (do_none))) (da_cons (de_int) (da_nil) rfl) rfl) (nd__law_first_enough).1 rfl rfl) (de_non) (nomark _)), he := fun _ _ _ _ _ => de_var (i := 16) rfl (.inl rfl) (nd__law_one).1 (nd__law_one).2, hs := fun _ => rfl } rfl rfl rfl) (dss_cons (ds_set (i := 3) nd rfl (.inr rfl) (de_if (dt_cmp (op_neP hu64) (de_var (i := 6) rfl (.inl rfl) (nd__law_nears).1 (nd__law_nears).2) (de_lst (da_nil)) (nomark _)) (de_op op_addP (de_tup (da_cons (de_var (i := 4) rfl (.inr (.inl rfl)) (nd__law_spacing).1 (nd__law_spacing).2) (da_cons (de_ix hu1 (de_var (i := 6) rfl (.inl rfl) (nd__law_nears).1 (nd__law_nears).2) (de_int) (fun _ _ => rfl)) (da_nil) rfl) rfl)) (de_sl (de_var (i := 3) rfl (.inr (.inl rfl)) (nd__law_bounds).1 (nd__law_bounds).2) (do_some (de_int)) (do_none))) (de_op op_addP (de_tup (da_cons (de_var (i := 4) rfl (.inr (.inl rfl)) (nd__law_spacing).1 (nd__law_spacing).2) (da_cons (de_int) (da_cons (de_int) (da_cons (de_int) (da_cons (de_int) (da_nil) rfl) rfl) rfl) rfl) rfl)) (de_sl (de_var (i := 3) rfl (.inr (.inl rfl)) (nd__law_bounds).1 (nd__law_bounds).2) (do_some (de_int)) (do_none)))) rfl (.inl rfl)) (dss_cons (ds_set (i := 7) nd rfl (.inl rfl) (de_call (ps := ["_law_bounds", "_law_most"]) G__law_first_enough (hr.mono (by decide)) hgd rfl (g__law_first_enough T) F__law_first_enough.kp b__law_first_enough (da_cons (de_var (i := 3) rfl (.inr (.inl rfl)) (nd__law_bounds).1 (nd__law_bounds).2) (da_cons (de_int) (da_nil) rfl) rfl) (nd__law_first_enough).1 rfl rfl) rfl (.inl rfl)) (dss_cons (ds_parN (is := [8, 9, 10, 11]) (n := 4) rfl (dgn_cons (i := 8) nd rfl (.inl rfl) (.inl rfl) (dgn_cons (i := 9) nd rfl (.inl rfl) (.inl rfl) (dgn_cons (i := 10) nd rfl (.inl rfl) (.inl rfl) (dgn_cons (i := 11) nd rfl (.inl rfl) (.inl rfl) (dgn_nil) rfl) rfl) rfl) rfl) (da_cons (de_op op_addP (de_op op_mulP (de_op op_addP (de_var (i := 5) rfl (.inl rfl) (nd__law_deep).1 (nd__law_deep).2) (de_int)) (de_var (i := 4) rfl (.inr (.inl rfl)) (nd__law_spacing).1 (nd__law_spacing).2)) (de_call (ps := ["_law_bag_here", "_law_many"]) G__law_take (hr.mono (by decide)) hgd rfl (g__law_take T) F__law_take.kp b__law_take (da_cons (de_var (i := 0) rfl (.inl rfl) (nd__law_bag_here).1 (nd__law_bag_here).2) (da_cons (de_var (i := 4) rfl (.inr (.inl rfl)) (nd__law_spacing).1 (nd__law_spacing).2) (da_nil) rfl) rfl) (nd__law_take).1 rfl rfl)) (da_cons (de_op op_addP (de_var (i := 4) rfl (.inr (.inl rfl)) (nd__law_spacing).1 (nd__law_spacing).2) (de_call (ps := ["_law_bag_here", "_law_many"]) G__law_take (hr.mono (by decide)) hgd rfl (g__law_take T) F__law_take.kp b__law_take (da_cons (de_var (i := 0) rfl (.inl rfl) (nd__law_bag_here).1 (nd__law_bag_here).2) (da_cons (de_int) (da_nil) rfl) rfl) (nd__law_take).1 rfl rfl)) (da_cons (de_lstM (da_nil)) (da_cons (de_lstM (da_nil)) (da_nil) rfl) rfl) rfl) rfl) rfl rfl rfl rfl rfl rfl) (dss_cons (ds_for PassesOwn.never rfl (di_range1 rfl (g_range T) (da_cons (de_op op_addP (de_int) (de_call (ps := ["_law_bag_here", "_law_many"]) G__law_take (hr.mono (by decide)) hgd rfl (g__law_take T) F__law_take.kp b__law_take (da_cons (de_var (i := 0) rfl (.inl rfl) (nd__law_bag_here).1 (nd__law_bag_here).2) (da_cons (de_var (i := 1) rfl (.inl rfl) (nd__law_most_pads).1 (nd__law_most_pads).2) (da_nil) rfl) rfl) (nd__law_take).1 rfl rfl)) (da_nil) rfl) rfl) (dg_name (i := 12) nd rfl (.inl rfl) (.inl rfl)) (dss_cons (ds_expr (de_mt PySem.F.slot_list_append PySem.F.type_list_append m_app (de_var (i := 10) rfl (.inl rfl) (nd__law_pads).1 (nd__law_pads).2) (da_cons (de_tup (da_cons (de_op op_mulP (de_var (i := 12) rfl (.inl rfl) (nd__law_number).1 (nd__law_number).2) (de_var (i := 9) rfl (.inl rfl) (nd__law_wide).1 (nd__law_wide).2)) (da_cons (de_op op_addP (de_var (i := 8) rfl (.inl rfl) (nd__law_high).1 (nd__law_high).2) (de_op op_mulP (de_var (i := 4) rfl (.inr (.inl rfl)) (nd__law_spacing).1 (nd__law_spacing).2) (de_call (ps := ["_law_bag_here", "_law_many"]) G__law_take (hr.mono (by decide)) hgd rfl (g__law_take T) F__law_take.kp b__law_take (da_cons (de_var (i := 0) rfl (.inl rfl) (nd__law_bag_here).1 (nd__law_bag_here).2) (da_cons (de_int) (da_nil) rfl) rfl) (nd__law_take).1 rfl rfl))) (da_nil) rfl) rfl)) (da_nil) rfl) rfl rfl rfl rfl rfl) rfl) (dss_nil)) (fun _ => rfl)) (dss_cons (ds_for PassesOwn.never rfl (di_range1 rfl (g_range T) (da_cons (de_op op_addP (de_int) (de_call (ps := ["_law_bag_here", "_law_many"]) G__law_take (hr.mono (by decide)) hgd rfl (g__law_take T) F__law_take.kp b__law_take (da_cons (de_var (i := 0) rfl (.inl rfl) (nd__law_bag_here).1 (nd__law_bag_here).2) (da_cons (de_var (i := 2) rfl (.inl rfl) (nd__law_most_scenes).1 (nd__law_most_scenes).2) (da_nil) rfl) rfl) (nd__law_take).1 rfl rfl)) (da_nil) rfl) rfl) (dg_name (i := 13) nd rfl (.inl rfl) (.inl rfl)) (dss_cons (ds_set (i := 14) nd rfl (.inl rfl) (de_op op_addP (de_call (ps := ["_law_bounds"]) G__law_needed (hr.mono (by decide)) hgd rfl (g__law_needed T) F__law_needed.kp b__law_needed (da_cons (de_var (i := 3) rfl (.inr (.inl rfl)) (nd__law_bounds).1 (nd__law_bounds).2) (da_nil) rfl) (nd__law_needed).1 rfl rfl) (de_call (ps := ["_law_bag_here", "_law_things"]) G__law_some (hr.mono (by decide)) hgd rfl (g__law_some T) F__law_some.kp b__law_some (da_cons (de_var (i := 0) rfl (.inl rfl) (nd__law_bag_here).1 (nd__law_bag_here).2) (da_cons (de_lst (da_cons (de_int) (da_cons (de_int) (da_cons (de_int) (da_nil) rfl) rfl) rfl)) (da_nil) rfl) rfl) (nd__law_some).1 rfl rfl)) rfl (.inl rfl)) (dss_cons (ds_set (i := 15) nd rfl (.inl rfl) (de_call (ps := ["_law_bag_here", "_law_spacing", "_law_deep", "_law_most"]) G__law_picture (hr.mono (by decide)) hgd rfl (g__law_picture T) F__law_picture.kp b__law_picture (da_cons (de_var (i := 0) rfl (.inl rfl) (nd__law_bag_here).1 (nd__law_bag_here).2) (da_cons (de_var (i := 4) rfl (.inr (.inl rfl)) (nd__law_spacing).1 (nd__law_spacing).2) (da_cons (de_var (i := 5) rfl (.inl rfl) (nd__law_deep).1 (nd__law_deep).2) (da_cons (de_call (ps := ["_law_bag_here", "_law_things"]) G__law_some (hr.mono (by decide)) hgd rfl (g__law_some T) F__law_some.kp b__law_some (da_cons (de_var (i := 0) rfl (.inl rfl) (nd__law_bag_here).1 (nd__law_bag_here).2) (da_cons (de_lst (da_cons (de_int) (da_cons (de_int) (da_cons (de_int) (da_nil) rfl) rfl) rfl)) (da_nil) rfl) rfl) (nd__law_some).1 rfl rfl) (da_nil) rfl) rfl) rfl) rfl) (nd__law_picture).1 rfl rfl) rfl (.inl rfl)) (dss_cons (ds_expr (de_mt PySem.F.slot_list_append PySem.F.type_list_append m_app (de_var (i := 11) rfl (.inl rfl) (nd__law_scenes).1 (nd__law_scenes).2) (da_cons (de_tup (da_cons (de_op op_addP (de_var (i := 7) rfl (.inl rfl) (nd__law_least).1 (nd__law_least).2) (de_call (ps := ["_law_bag_here", "_law_things"]) G__law_some (hr.mono (by decide)) hgd rfl (g__law_some T) F__law_some.kp b__law_some (da_cons (de_var (i := 0) rfl (.inl rfl) (nd__law_bag_here).1 (nd__law_bag_here).2) (da_cons (de_lst (da_cons (de_int) (da_cons (de_int) (da_cons (de_int) (da_nil) rfl) rfl) rfl)) (da_nil) rfl) rfl) (nd__law_some).1 rfl rfl)) (da_cons (de_var (i := 14) rfl (.inl rfl) (nd__law_hold).1 (nd__law_hold).2) (da_cons (de_var (i := 15) rfl (.inl rfl) (nd__law_picture_here).1 (nd__law_picture_here).2) (da_nil) rfl) rfl) rfl)) (da_nil) rfl) rfl rfl rfl rfl rfl) rfl) (dss_nil)))) (fun _ => rfl)) (dss_cons (ds_ret (de_call (ps := ["_law_bag_here", "_law_bounds", "_law_pads", "_law_scenes", "_law_more"]) G__law_show_of (hr.mono (by decide)) hgd rfl (g__law_show_of T) F__law_show_of.kp b__law_show_of (da_cons (de_var (i := 0) rfl (.inl rfl) (nd__law_bag_here).1 (nd__law_bag_here).2) (da_cons (de_var (i := 3) rfl (.inr (.inl rfl)) (nd__law_bounds).1 (nd__law_bounds).2) (da_cons (de_var (i := 10) rfl (.inl rfl) (nd__law_pads).1 (nd__law_pads).2) (da_cons (de_var (i := 11) rfl (.inl rfl) (nd__law_scenes).1 (nd__law_scenes).2) (da_cons (de_call (ps := ["_law_bag_here", "_law_things"]) G__law_some (hr.mono (by decide)) hgd rfl (g__law_some T) F__law_some.kp b__law_some (da_cons (de_var (i := 0) rfl (.inl rfl) (nd__law_bag_here).1 (nd__law_bag_here).2) (da_cons (de_lst (da_cons (de_int) (da_cons (de_int) (da_nil) rfl) rfl)) (da_nil) rfl) rfl) (nd__law_some).1 rfl rfl) (da_nil) rfl) rfl) rfl) rfl) rfl) (nd__law_show_of).1 rfl rfl)) (dss_nil))))))))))
abbrev N__law_fall : List Str := ["_law_show_here", "_law_night_here", "_law_carrier", "_law_found", "_law_scene", "_law_least"]
theorem sc__law_fall : FnScope N__law_fall ["_law_show_here", "_law_night_here", "_law_carrier"] (defScope (top 39)) := ⟨rfl, rfl, rfl, by decide +kernel, rfl, by decide +kernel, by decide +kernel⟩
theorem ok__law_fall (T : Top K mg) : Good P wd K mg base "_law_fall" 39 ["_law_show_here", "_law_night_here", "_law_carrier"] 4 c__law_fall := by
  obtain ⟨fd, F0⟩ := T.says.d.def_ 33 (d := dOf "_law_fall" 39) rfl
  have F : FunD K "_law_fall" "_law_fall" (defArgs (top 39)) (defBody (top 39)) (defScope (top 39)) [] [] (He.ga K "_law_fall") fd := F0
  refine ⟨fd, F, FunD.bindsN F (ps := ["_law_show_here", "_law_night_here", "_law_carrier"]) fun _ _ _ _ _ _ us hl => match us, hl with | [_, _, _], _ => rfl, FunD.bindsA F (ps := ["_law_show_here", "_law_night_here", "_law_carrier"]) fun _ _ _ _ _ _ us hl => match us, hl with | [_, _, _], _ => rfl, FnG.den (N := N__law_fall) false F sc__law_fall fun cdv A outer s H E hr hgd => PSs.nox ?_⟩
  have nd : N__law_fall.Nodup := sc__law_fall.nd
  have hu1 : (A.deeper (envOfC "_law_fall" (defScope (top 39)) s.heap.objs.size (He.ga K "_law_fall") cdv)).units + 1 < cLine := by have := hr.un; omega
  have hu64 : (A.deeper (envOfC "_law_fall" (defScope (top 39)) s.heap.objs.size (He.ga K "_law_fall") cdv)).units + 64 < cLine := by have := hr.un; omega
  have hu65 : (A.deeper (envOfC "_law_fall" (defScope (top 39)) s.heap.objs.size (He.ga K "_law_fall") cdv)).units + 65 < cLine := by have := hr.un; omega
  obtain ⟨fd__law_added, F__law_added, b__law_added, _, G__law_added⟩ := ok__law_added (P := P) (wd := wd) (base := base) T
  obtain ⟨fd__law_times, F__law_times, b__law_times, _, G__law_times⟩ := ok__law_times (P := P) (wd := wd) (base := base) T
  obtain ⟨fd__law_lag, F__law_lag, b__law_lag, _, G__law_lag⟩ := ok__law_lag (P := P) (wd := wd) (base := base) T
  obtain ⟨fd__law_is_below, F__law_is_below, b__law_is_below, _, G__law_is_below⟩ := ok__law_is_below (P := P) (wd := wd) (base := base) T
  exact dss_cons (ds_set (i := 3) nd rfl (.inl rfl) (de_if (dt_cmp (op_inP hu64) (de_var (i := 2) rfl (.inl rfl) (nd__law_carrier).1 (nd__law_carrier).2) (de_ix hu1 (de_var (i := 1) rfl (.inl rfl) (nd__law_night_here).1 (nd__law_night_here).2) (de_int) (fun _ _ => rfl)) rfl) (de_lstM (da_cons (de_ix hu1 (de_ix hu1 (de_var (i := 1) rfl (.inl rfl) (nd__law_night_here).1 (nd__law_night_here).2) (de_int) (fun _ _ => rfl)) (de_var (i := 2) rfl (.inl rfl) (nd__law_carrier).1 (nd__law_carrier).2) (fun _ _ => rfl)) (da_nil) rfl)) (de_lstM (da_nil))) rfl (.inl rfl)) (dss_cons (ds_if (dt_cmp (op_inP hu64) (de_var (i := 2) rfl (.inl rfl) (nd__law_carrier).1 (nd__law_carrier).2) (de_ix hu1 (de_var (i := 1) rfl (.inl rfl) (nd__law_night_here).1 (nd__law_night_here).2) (de_int) (fun _ _ => rfl)) rfl) (dss_cons (ds_set (i := 4) nd rfl (.inl rfl) (de_ix hu1 (de_ix hu1 (de_var (i := 1) rfl (.inl rfl) (nd__law_night_here).1 (nd__law_night_here).2) (de_int) (fun _ _ => rfl)) (de_var (i := 2) rfl (.inl rfl) (nd__law_carrier).1 (nd__law_carrier).2) (fun _ _ => rfl)) rfl (.inl rfl)) (dss_cons (ds_expr (de_mt PySem.F.slot_list_append PySem.F.type_list_append m_app (de_var (i := 3) rfl (.inl rfl) (nd__law_found).1 (nd__law_found).2) (da_cons (de_call (ps := ["_law_x", "_law_y"]) G__law_added (hr.mono (by decide)) hgd rfl (g__law_added T) F__law_added.kp b__law_added (da_cons (de_tup (da_cons (de_op op_subP (de_ix hu1 (de_ix hu1 (de_call (ps := ["_law_show_here"]) G__law_times (hr.mono (by decide)) hgd rfl (g__law_times T) F__law_times.kp b__law_times (da_cons (de_var (i := 0) rfl (.inl rfl) (nd__law_show_here).1 (nd__law_show_here).2) (da_nil) rfl) (nd__law_times).1 rfl rfl) (de_var (i := 4) rfl (.inl rfl) (nd__law_scene).1 (nd__law_scene).2) (fun _ _ => rfl)) (de_int) (fun _ _ => rfl)) (de_call (ps := ["_law_bounds"]) G__law_lag (hr.mono (by decide)) hgd rfl (g__law_lag T) F__law_lag.kp b__law_lag (da_cons (de_ix hu1 (de_var (i := 0) rfl (.inl rfl) (nd__law_show_here).1 (nd__law_show_here).2) (de_int) (fun _ _ => rfl)) (da_nil) rfl) (nd__law_lag).1 rfl rfl)) (da_cons (de_int) (da_nil) rfl) rfl)) (da_cons (de_ix hu1 (de_ix hu1 (de_ix hu1 (de_var (i := 1) rfl (.inl rfl) (nd__law_night_here).1 (nd__law_night_here).2) (de_int) (fun _ _ => rfl)) (de_var (i := 2) rfl (.inl rfl) (nd__law_carrier).1 (nd__law_carrier).2) (fun _ _ => rfl)) (de_var (i := 4) rfl (.inl rfl) (nd__law_scene).1 (nd__law_scene).2) (fun _ _ => rfl)) (da_nil) rfl) rfl) (nd__law_added).1 rfl rfl) (da_nil) rfl) rfl rfl rfl rfl rfl) rfl) (dss_nil))) (dss_nil)) (dss_cons (ds_set (i := 5) nd rfl (.inl rfl) (de_if (dt_cmp (op_neP hu64) (de_var (i := 3) rfl (.inl rfl) (nd__law_found).1 (nd__law_found).2) (de_lst (da_nil)) (nomark _)) (de_ix hu1 (de_var (i := 3) rfl (.inl rfl) (nd__law_found).1 (nd__law_found).2) (de_int) (fun _ _ => rfl)) (de_non)) rfl (.inl rfl)) (dss_cons (ds_ret (de_if (PW.pt (dw_and (dt_cmp op_gtP (de_callB (cr_P cr_lenG) rfl (g_len T) bt_len (da_cons (de_var (i := 3) rfl (.inl rfl) (nd__law_found).1 (nd__law_found).2) (da_nil) rfl) (by decide) (nd_len).1 rfl rfl) (de_int) (nomark _)) (dw_and1 (dt_val (de_call (ps := ["_law_x", "_law_y"]) G__law_is_below (hr.mono (by decide)) hgd rfl (g__law_is_below T) F__law_is_below.kp b__law_is_below (da_cons (de_ix hu1 (de_var (i := 3) rfl (.inl rfl) (nd__law_found).1 (nd__law_found).2) (de_int) (fun _ _ => rfl)) (da_cons (de_ix hu1 (de_var (i := 3) rfl (.inl rfl) (nd__law_found).1 (nd__law_found).2) (de_int) (fun _ _ => rfl)) (da_nil) rfl) rfl) (nd__law_is_below).1 rfl rfl) (fun _ => rfl))))) (de_ix hu1 (de_var (i := 3) rfl (.inl rfl) (nd__law_found).1 (nd__law_found).2) (de_int) (fun _ _ => rfl)) (de_var (i := 5) rfl (.inl rfl) (nd__law_least).1 (nd__law_least).2))) (dss_nil))))
abbrev N_struck : List Str := ["show", "night", "carrier"]
theorem sc_struck : FnScope N_struck ["show", "night"] (defScope (top 14)) := ⟨rfl, rfl, rfl, by decide +kernel, rfl, by decide +kernel, by decide +kernel⟩
theorem ok_struck (T : Top K mg) : Good P wd K mg base "struck" 14 ["show", "night"] 5 c_struck := by
  obtain ⟨fd, F0⟩ := T.says.d.def_ 9 (d := dOf "struck" 14) rfl
  have F : FunD K "struck" "struck" (defArgs (top 14)) (defBody (top 14)) (defScope (top 14)) [] [] (He.ga K "struck") fd := F0
  refine ⟨fd, F, FunD.bindsN F (ps := ["show", "night"]) fun _ _ _ _ _ _ us hl => match us, hl with | [_, _], _ => rfl, FunD.bindsA F (ps := ["show", "night"]) fun _ _ _ _ _ _ us hl => match us, hl with | [_, _], _ => rfl, FnG.den (N := N_struck) false F sc_struck fun cdv A outer s H E hr hgd => PSs.nox ?_⟩
  have nd : N_struck.Nodup := sc_struck.nd
  have hu1 : (A.deeper (envOfC "struck" (defScope (top 14)) s.heap.objs.size (He.ga K "struck") cdv)).units + 1 < cLine := by have := hr.un; omega
  have hu64 : (A.deeper (envOfC "struck" (defScope (top 14)) s.heap.objs.size (He.ga K "struck") cdv)).units + 64 < cLine := by have := hr.un; omega
  have hu65 : (A.deeper (envOfC "struck" (defScope (top 14)) s.heap.objs.size (He.ga K "struck") cdv)).units + 65 < cLine := by have := hr.un; omega
  obtain ⟨fd_carriers_of, F_carriers_of, b_carriers_of, _, G_carriers_of⟩ := ok_carriers_of (P := P) (wd := wd) (base := base) T
  obtain ⟨fd_fall_of, F_fall_of, b_fall_of, _, G_fall_of⟩ := ok_fall_of (P := P) (wd := wd) (base := base) T
  exact dss_cons (ds_ret (de_callTy (cr_P cr_tupG) rfl (g_tuple T) bt_tuple (da_cons (de_lc (own := [("carrier", 2)]) { hc := rfl, hN := nd, hi := di_seq (de_call (ps := ["show"]) G_carriers_of (hr.mono (by decide)) hgd rfl (g_carriers_of T) F_carriers_of.kp b_carriers_of (da_cons (de_var (i := 0) rfl (.inr (.inl rfl)) (nd_show).1 (nd_show).2) (da_nil) rfl) (nd_carriers_of).1 rfl rfl), ok := blkOk_by (N := N_struck) (sc := defScope (top 14)) (by decide +kernel), hg := fun _ _ _ _ _ => dv_name (i := 2) nd rfl (.inl rfl) (.inr rfl) (by decide), ht := fun _ _ _ _ _ => dts_one (dt_cmp op_isntP (de_call (ps := ["show", "night", "carrier"]) G_fall_of (hr.mono (by decide)) hgd rfl (g_fall_of T) F_fall_of.kp b_fall_of (da_cons (de_var (i := 0) rfl (.inr (.inl rfl)) (nd_show).1 (nd_show).2) (da_cons (de_var (i := 1) rfl (.inr (.inl rfl)) (nd_night).1 (nd_night).2) (da_cons (de_var (i := 2) rfl (.inl rfl) (nd_carrier).1 (nd_carrier).2) (da_nil) rfl) rfl) rfl) (nd_fall_of).1 rfl rfl) (de_non) (nomark _)), he := fun _ _ _ _ _ => de_var (i := 2) rfl (.inl rfl) (nd_carrier).1 (nd_carrier).2, hs := fun _ => rfl }) (da_nil) rfl) (by decide) (nd_tuple).1 rfl rfl)) (dss_nil)
abbrev N__law_moment : List Str := ["_law_bag_here", "_law_show_here", "_law_times_here", "_law_opens", "_law_leaves", "_law_arrives", "_law_ends", "_law_writing_here", "_law_middle", "_law_tick", "_law_found", "_law_last"]
theorem sc__law_moment : FnScope N__law_moment ["_law_bag_here", "_law_show_here"] (defScope (top 37)) := ⟨rfl, rfl, rfl, by decide +kernel, rfl, by decide +kernel, by decide +kernel⟩
theorem ok__law_moment (T : Top K mg) : Good P wd K mg base "_law_moment" 37 ["_law_bag_here", "_law_show_here"] 5 c__law_moment := by
  obtain ⟨fd, F0⟩ := T.says.d.def_ 31 (d := dOf "_law_moment" 37) rfl
  have F : FunD K "_law_moment" "_law_moment" (defArgs (top 37)) (defBody (top 37)) (defScope (top 37)) [] [] (He.ga K "_law_moment") fd := F0
  refine ⟨fd, F, FunD.bindsN F (ps := ["_law_bag_here", "_law_show_here"]) fun _ _ _ _ _ _ us hl => match us, hl with | [_, _], _ => rfl, FunD.bindsA F (ps := ["_law_bag_here", "_law_show_here"]) fun _ _ _ _ _ _ us hl => match us, hl with | [_, _], _ => rfl, FnG.den (N := N__law_moment) false F sc__law_moment fun cdv A outer s H E hr hgd => PSs.nox ?_⟩
  have nd : N__law_moment.Nodup := sc__law_moment.nd
  have hu1 : (A.deeper (envOfC "_law_moment" (defScope (top 37)) s.heap.objs.size (He.ga K "_law_moment") cdv)).units + 1 < cLine := by have := hr.un; omega
  have hu64 : (A.deeper (envOfC "_law_moment" (defScope (top 37)) s.heap.objs.size (He.ga K "_law_moment") cdv)).units + 64 < cLine := by have := hr.un; omega
  have hu65 : (A.deeper (envOfC "_law_moment" (defScope (top 37)) s.heap.objs.size (He.ga K "_law_moment") cdv)).units + 65 < cLine := by have := hr.un; omega
  obtain ⟨fd__law_times, F__law_times, b__law_times, _, G__law_times⟩ := ok__law_times (P := P) (wd := wd) (base := base) T
  obtain ⟨fd__law_some, F__law_some, b__law_some, _, G__law_some⟩ := ok__law_some (P := P) (wd := wd) (base := base) T
  obtain ⟨fd__law_writing, F__law_writing, b__law_writing, _, G__law_writing⟩ := ok__law_writing (P := P) (wd := wd) (base := base) T
  obtain ⟨fd__law_added, F__law_added, b__law_added, _, G__law_added⟩ := ok__law_added (P := P) (wd := wd) (base := base) T
  obtain ⟨fd__law_is_below, F__law_is_below, b__law_is_below, _, G__law_is_below⟩ := ok__law_is_below (P := P) (wd := wd) (base := base) T
  exact dss_cons (ds_set (i := 2) nd rfl (.inl rfl) (de_call (ps := ["_law_show_here"]) G__law_times (hr.mono (by decide)) hgd rfl (g__law_times T) F__law_times.kp b__law_times (da_cons (de_var (i := 1) rfl (.inl rfl) (nd__law_show_here).1 (nd__law_show_here).2) (da_nil) rfl) (nd__law_times).1 rfl rfl) rfl (.inl rfl)) (dss_cons (ds_asg (de_call (ps := ["_law_bag_here", "_law_things"]) G__law_some (hr.mono (by decide)) hgd rfl (g__law_some T) F__law_some.kp b__law_some (da_cons (de_var (i := 0) rfl (.inl rfl) (nd__law_bag_here).1 (nd__law_bag_here).2) (da_cons (de_var (i := 2) rfl (.inl rfl) (nd__law_times_here).1 (nd__law_times_here).2) (da_nil) rfl) rfl) (nd__law_some).1 rfl rfl) (dg_tup rfl (dgs_cons (dg_name (i := 3) nd rfl (.inl rfl) (.inl rfl)) (dgs_cons (dg_name (i := 4) nd rfl (.inl rfl) (.inl rfl)) (dgs_cons (dg_name (i := 5) nd rfl (.inl rfl) (.inl rfl)) (dgs_cons (dg_name (i := 6) nd rfl (.inl rfl) (.inl rfl)) (dgs_nil) rfl) rfl) rfl) rfl) rfl rfl) rfl rfl rfl) (dss_cons (ds_set (i := 7) nd rfl (.inl rfl) (de_call (ps := ["_law_show_here", "_law_scene"]) G__law_writing (hr.mono (by decide)) hgd rfl (g__law_writing T) F__law_writing.kp b__law_writing (da_cons (de_var (i := 1) rfl (.inl rfl) (nd__law_show_here).1 (nd__law_show_here).2) (da_cons (de_mt PySem.F.slot_list_index PySem.F.type_list_index (m_idx hu65) (de_var (i := 2) rfl (.inl rfl) (nd__law_times_here).1 (nd__law_times_here).2) (da_cons (de_tup (da_cons (de_var (i := 3) rfl (.inl rfl) (nd__law_opens).1 (nd__law_opens).2) (da_cons (de_var (i := 4) rfl (.inl rfl) (nd__law_leaves).1 (nd__law_leaves).2) (da_cons (de_var (i := 5) rfl (.inl rfl) (nd__law_arrives).1 (nd__law_arrives).2) (da_cons (de_var (i := 6) rfl (.inl rfl) (nd__law_ends).1 (nd__law_ends).2) (da_nil) rfl) rfl) rfl) rfl)) (da_nil) rfl) rfl rfl rfl rfl rfl) (da_nil) rfl) rfl) (nd__law_writing).1 rfl rfl) rfl (.inl rfl)) (dss_cons (ds_set (i := 8) nd rfl (.inl rfl) (de_op op_fdivP (de_op op_addP (de_var (i := 4) rfl (.inl rfl) (nd__law_leaves).1 (nd__law_leaves).2) (de_var (i := 5) rfl (.inl rfl) (nd__law_arrives).1 (nd__law_arrives).2)) (de_int)) rfl (.inl rfl)) (dss_cons (ds_set (i := 9) nd rfl (.inl rfl) (de_call (ps := ["_law_bag_here", "_law_things"]) G__law_some (hr.mono (by decide)) hgd rfl (g__law_some T) F__law_some.kp b__law_some (da_cons (de_var (i := 0) rfl (.inl rfl) (nd__law_bag_here).1 (nd__law_bag_here).2) (da_cons (de_lst (da_cons (de_var (i := 3) rfl (.inl rfl) (nd__law_opens).1 (nd__law_opens).2) (da_cons (de_var (i := 4) rfl (.inl rfl) (nd__law_leaves).1 (nd__law_leaves).2) (da_cons (de_var (i := 5) rfl (.inl rfl) (nd__law_arrives).1 (nd__law_arrives).2) (da_cons (de_var (i := 6) rfl (.inl rfl) (nd__law_ends).1 (nd__law_ends).2) (da_cons (de_var (i := 7) rfl (.inl rfl) (nd__law_writing_here).1 (nd__law_writing_here).2) (da_cons (de_op op_subP (de_op op_subP (de_var (i := 4) rfl (.inl rfl) (nd__law_leaves).1 (nd__law_leaves).2) (de_ix hu1 (de_ix hu1 (de_var (i := 1) rfl (.inl rfl) (nd__law_show_here).1 (nd__law_show_here).2) (de_int) (fun _ _ => rfl)) (de_int) (fun _ _ => rfl))) (de_ix hu1 (de_ix hu1 (de_var (i := 1) rfl (.inl rfl) (nd__law_show_here).1 (nd__law_show_here).2) (de_int) (fun _ _ => rfl)) (de_int) (fun _ _ => rfl))) (da_cons (de_var (i := 8) rfl (.inl rfl) (nd__law_middle).1 (nd__law_middle).2) (da_nil) rfl) rfl) rfl) rfl) rfl) rfl) rfl)) (da_nil) rfl) rfl) (nd__law_some).1 rfl rfl) rfl (.inl rfl)) (dss_cons (ds_set (i := 10) nd rfl (.inl rfl) (de_call (ps := ["_law_x", "_law_y"]) G__law_added (hr.mono (by decide)) hgd rfl (g__law_added T) F__law_added.kp b__law_added (da_cons (de_tup (da_cons (de_var (i := 9) rfl (.inl rfl) (nd__law_tick).1 (nd__law_tick).2) (da_cons (de_int) (da_nil) rfl) rfl)) (da_cons (de_call (ps := ["_law_bag_here", "_law_things"]) G__law_some (hr.mono (by decide)) hgd rfl (g__law_some T) F__law_some.kp b__law_some (da_cons (de_var (i := 0) rfl (.inl rfl) (nd__law_bag_here).1 (nd__law_bag_here).2) (da_cons (de_lst (da_cons (de_tup (da_cons (de_int) (da_cons (de_int) (da_nil) rfl) rfl)) (da_cons (de_tup (da_cons (de_int) (da_cons (de_int) (da_nil) rfl) rfl)) (da_cons (de_tup (da_cons (de_neg (de_int)) (da_cons (de_int) (da_nil) rfl) rfl)) (da_cons (de_tup (da_cons (de_ix hu1 (de_ix hu1 (de_var (i := 1) rfl (.inl rfl) (nd__law_show_here).1 (nd__law_show_here).2) (de_int) (fun _ _ => rfl)) (de_int) (fun _ _ => rfl)) (da_cons (de_int) (da_nil) rfl) rfl)) (da_cons (de_tup (da_cons (de_neg (de_int)) (da_cons (de_int) (da_nil) rfl) rfl)) (da_cons (de_tup (da_cons (de_int) (da_cons (de_int) (da_nil) rfl) rfl)) (da_nil) rfl) rfl) rfl) rfl) rfl) rfl)) (da_nil) rfl) rfl) (nd__law_some).1 rfl rfl) (da_nil) rfl) rfl) (nd__law_added).1 rfl rfl) rfl (.inl rfl)) (dss_cons (ds_set (i := 11) nd rfl (.inl rfl) (de_tup (da_cons (de_ix hu1 (de_ix hu1 (de_var (i := 2) rfl (.inl rfl) (nd__law_times_here).1 (nd__law_times_here).2) (de_neg (de_int)) (fun _ _ => rfl)) (de_int) (fun _ _ => rfl)) (da_cons (de_int) (da_nil) rfl) rfl)) rfl (.inl rfl)) (dss_cons (ds_ret (de_if (dt_cmp op_ltP (de_ix hu1 (de_var (i := 10) rfl (.inl rfl) (nd__law_found).1 (nd__law_found).2) (de_int) (fun _ _ => rfl)) (de_int) (nomark _)) (de_tup (da_cons (de_int) (da_cons (de_int) (da_nil) rfl) rfl)) (de_if (dt_val (de_call (ps := ["_law_x", "_law_y"]) G__law_is_below (hr.mono (by decide)) hgd rfl (g__law_is_below T) F__law_is_below.kp b__law_is_below (da_cons (de_var (i := 11) rfl (.inl rfl) (nd__law_last).1 (nd__law_last).2) (da_cons (de_var (i := 10) rfl (.inl rfl) (nd__law_found).1 (nd__law_found).2) (da_nil) rfl) rfl) (nd__law_is_below).1 rfl rfl) (fun _ => rfl)) (de_var (i := 11) rfl (.inl rfl) (nd__law_last).1 (nd__law_last).2) (de_var (i := 10) rfl (.inl rfl) (nd__law_found).1 (nd__law_found).2)))) (dss_nil))))))))
abbrev N__law_night : List Str := ["_law_bag_here", "_law_show_here", "_law_often", "_law_falls", "_law_errs", "_law_winds", "_law_lost", "_law_carrier", "_law_way", "_law_scene", "_law_turn"]
theorem sc__law_night : FnScope N__law_night ["_law_bag_here", "_law_show_here", "_law_often"] (defScope (top 38)) := ⟨rfl, rfl, rfl, by decide +kernel, rfl, by decide +kernel, by decide +kernel⟩
theorem ok__law_night (T : Top K mg) : Good P wd K mg base "_law_night" 38 ["_law_bag_here", "_law_show_here", "_law_often"] 6 c__law_night := by
  obtain ⟨fd, F0⟩ := T.says.d.def_ 32 (d := dOf "_law_night" 38) rfl
  have F : FunD K "_law_night" "_law_night" (defArgs (top 38)) (defBody (top 38)) (defScope (top 38)) [] [] (He.ga K "_law_night") fd := F0
  refine ⟨fd, F, FunD.bindsN F (ps := ["_law_bag_here", "_law_show_here", "_law_often"]) fun _ _ _ _ _ _ us hl => match us, hl with | [_, _, _], _ => rfl, FunD.bindsA F (ps := ["_law_bag_here", "_law_show_here", "_law_often"]) fun _ _ _ _ _ _ us hl => match us, hl with | [_, _, _], _ => rfl, FnG.den (N := N__law_night) false F sc__law_night fun cdv A outer s H E hr hgd => PSs.nox ?_⟩
  have nd : N__law_night.Nodup := sc__law_night.nd
  have hu1 : (A.deeper (envOfC "_law_night" (defScope (top 38)) s.heap.objs.size (He.ga K "_law_night") cdv)).units + 1 < cLine := by have := hr.un; omega
  have hu64 : (A.deeper (envOfC "_law_night" (defScope (top 38)) s.heap.objs.size (He.ga K "_law_night") cdv)).units + 64 < cLine := by have := hr.un; omega
  have hu65 : (A.deeper (envOfC "_law_night" (defScope (top 38)) s.heap.objs.size (He.ga K "_law_night") cdv)).units + 65 < cLine := by have := hr.un; omega
  obtain ⟨fd__law_part, F__law_part, b__law_part, _, G__law_part⟩ := ok__law_part (P := P) (wd := wd) (base := base) T
  obtain ⟨fd__law_wind, F__law_wind, b__law_wind, _, G__law_wind⟩ := ok__law_wind (P := P) (wd := wd) (base := base) T
  obtain ⟨fd__law_take, F__law_take, b__law_take, _, G__law_take⟩ := ok__law_take (P := P) (wd := wd) (base := base) T
  obtain ⟨fd__law_moment, F__law_moment, b__law_moment, _, G__law_moment⟩ := ok__law_moment (P := P) (wd := wd) (base := base) T
  exact dss_cons (ds_parN (is := [3, 4, 5, 6]) (n := 4) rfl (dgn_cons (i := 3) nd rfl (.inl rfl) (.inl rfl) (dgn_cons (i := 4) nd rfl (.inl rfl) (.inl rfl) (dgn_cons (i := 5) nd rfl (.inl rfl) (.inl rfl) (dgn_cons (i := 6) nd rfl (.inl rfl) (.inl rfl) (dgn_nil) rfl) rfl) rfl) rfl) (da_cons (de_dctM) (da_cons (de_dctM) (da_cons (de_dctM) (da_cons (de_dctM) (da_nil) rfl) rfl) rfl) rfl) rfl rfl rfl rfl rfl rfl) (dss_cons (ds_for PassesOwn.never rfl (di_range1 rfl (g_range T) (da_cons (de_callB (cr_P cr_lenG) rfl (g_len T) bt_len (da_cons (de_ix hu1 (de_var (i := 1) rfl (.inr (.inl rfl)) (nd__law_show_here).1 (nd__law_show_here).2) (de_int) (fun _ _ => rfl)) (da_nil) rfl) (by decide) (nd_len).1 rfl rfl) (da_nil) rfl) rfl) (dg_name (i := 7) nd rfl (.inl rfl) (.inl rfl)) (dss_cons (ds_asg (de_callTy (cr_P cr_tupG) rfl (g_tuple T) bt_tuple (da_cons (de_lc (own := [("_law_scene", 9)]) { hc := rfl, hN := nd, hi := di_seq (de_ix hu1 (de_var (i := 1) rfl (.inr (.inl rfl)) (nd__law_show_here).1 (nd__law_show_here).2) (de_int) (fun _ _ => rfl)), ok := blkOk_by (N := N__law_night) (sc := defScope (top 38)) (by decide +kernel), hg := fun _ _ _ _ _ => dv_name (i := 9) nd rfl (.inl rfl) (.inr rfl) (by decide), ht := fun _ _ _ _ _ => dts_nil, he := fun _ _ _ _ _ => de_call (ps := ["_law_bag_here", "_law_clock"]) G__law_part (hr.mono (by decide)) hgd rfl (g__law_part T) F__law_part.kp b__law_part (da_cons (de_var (i := 0) rfl (.inr (.inl rfl)) (nd__law_bag_here).1 (nd__law_bag_here).2) (da_cons (de_ix hu1 (de_ix hu1 (de_var (i := 1) rfl (.inr (.inl rfl)) (nd__law_show_here).1 (nd__law_show_here).2) (de_int) (fun _ _ => rfl)) (de_int) (fun _ _ => rfl)) (da_nil) rfl) rfl) (nd__law_part).1 rfl rfl, hs := fun _ => rfl }) (da_nil) rfl) (by decide) (nd_tuple).1 rfl rfl) (dg_sub (de_var (i := 4) rfl (.inl rfl) (nd__law_errs).1 (nd__law_errs).2) (de_var (i := 7) rfl (.inl rfl) (nd__law_carrier).1 (nd__law_carrier).2) (ps_wSet hu1) (fun _ => rfl)) rfl rfl rfl) (dss_cons (ds_asg (de_callTy (cr_P cr_tupG) rfl (g_tuple T) bt_tuple (da_cons (de_lc (own := [("_law_turn", 10)]) { hc := rfl, hN := nd, hi := di_range1 rfl (g_range T) (da_cons (de_op op_addP (de_callB (cr_P cr_lenG) rfl (g_len T) bt_len (da_cons (de_ix hu1 (de_var (i := 1) rfl (.inr (.inl rfl)) (nd__law_show_here).1 (nd__law_show_here).2) (de_int) (fun _ _ => rfl)) (da_nil) rfl) (by decide) (nd_len).1 rfl rfl) (de_int)) (da_nil) rfl) rfl, ok := blkOk_by (N := N__law_night) (sc := defScope (top 38)) (by decide +kernel), hg := fun _ _ _ _ _ => dv_name (i := 10) nd rfl (.inl rfl) (.inr rfl) (by decide), ht := fun _ _ _ _ _ => dts_nil, he := fun _ _ _ _ _ => de_call (ps := ["_law_bag_here", "_law_wind_here"]) G__law_wind (hr.mono (by decide)) hgd rfl (g__law_wind T) F__law_wind.kp b__law_wind (da_cons (de_var (i := 0) rfl (.inr (.inl rfl)) (nd__law_bag_here).1 (nd__law_bag_here).2) (da_cons (de_ix hu1 (de_ix hu1 (de_var (i := 1) rfl (.inr (.inl rfl)) (nd__law_show_here).1 (nd__law_show_here).2) (de_int) (fun _ _ => rfl)) (de_int) (fun _ _ => rfl)) (da_nil) rfl) rfl) (nd__law_wind).1 rfl rfl, hs := fun _ => rfl }) (da_nil) rfl) (by decide) (nd_tuple).1 rfl rfl) (dg_sub (de_var (i := 5) rfl (.inl rfl) (nd__law_winds).1 (nd__law_winds).2) (de_var (i := 7) rfl (.inl rfl) (nd__law_carrier).1 (nd__law_carrier).2) (ps_wSet hu1) (fun _ => rfl)) rfl rfl rfl) (dss_cons (ds_set (i := 8) nd rfl (.inl rfl) (de_call (ps := ["_law_bag_here", "_law_many"]) G__law_take (hr.mono (by decide)) hgd rfl (g__law_take T) F__law_take.kp b__law_take (da_cons (de_var (i := 0) rfl (.inr (.inl rfl)) (nd__law_bag_here).1 (nd__law_bag_here).2) (da_cons (de_op op_mulP (de_int) (de_var (i := 2) rfl (.inl rfl) (nd__law_often).1 (nd__law_often).2)) (da_nil) rfl) rfl) (nd__law_take).1 rfl rfl) rfl (.inl rfl)) (dss_cons (ds_if (dt_cmp (op_eqP hu64) (de_var (i := 8) rfl (.inl rfl) (nd__law_way).1 (nd__law_way).2) (de_int) (nomark _)) (dss_cons (ds_asg (de_call (ps := ["_law_bag_here", "_law_show_here"]) G__law_moment (hr.mono (by decide)) hgd rfl (g__law_moment T) F__law_moment.kp b__law_moment (da_cons (de_var (i := 0) rfl (.inr (.inl rfl)) (nd__law_bag_here).1 (nd__law_bag_here).2) (da_cons (de_var (i := 1) rfl (.inr (.inl rfl)) (nd__law_show_here).1 (nd__law_show_here).2) (da_nil) rfl) rfl) (nd__law_moment).1 rfl rfl) (dg_sub (de_var (i := 3) rfl (.inl rfl) (nd__law_falls).1 (nd__law_falls).2) (de_var (i := 7) rfl (.inl rfl) (nd__law_carrier).1 (nd__law_carrier).2) (ps_wSet hu1) (fun _ => rfl)) rfl rfl rfl) (dss_nil)) (dss_nil)) (dss_cons (ds_if (dt_cmp (op_eqP hu64) (de_var (i := 8) rfl (.inl rfl) (nd__law_way).1 (nd__law_way).2) (de_int) (nomark _)) (dss_cons (ds_asg (de_call (ps := ["_law_bag_here", "_law_many"]) G__law_take (hr.mono (by decide)) hgd rfl (g__law_take T) F__law_take.kp b__law_take (da_cons (de_var (i := 0) rfl (.inr (.inl rfl)) (nd__law_bag_here).1 (nd__law_bag_here).2) (da_cons (de_callB (cr_P cr_lenG) rfl (g_len T) bt_len (da_cons (de_ix hu1 (de_var (i := 1) rfl (.inr (.inl rfl)) (nd__law_show_here).1 (nd__law_show_here).2) (de_int) (fun _ _ => rfl)) (da_nil) rfl) (by decide) (nd_len).1 rfl rfl) (da_nil) rfl) rfl) (nd__law_take).1 rfl rfl) (dg_sub (de_var (i := 6) rfl (.inl rfl) (nd__law_lost).1 (nd__law_lost).2) (de_var (i := 7) rfl (.inl rfl) (nd__law_carrier).1 (nd__law_carrier).2) (ps_wSet hu1) (fun _ => rfl)) rfl rfl rfl) (dss_nil)) (dss_nil)) (dss_nil)))))) (fun _ => rfl)) (dss_cons (ds_retT (da_cons (de_var (i := 3) rfl (.inl rfl) (nd__law_falls).1 (nd__law_falls).2) (da_cons (de_var (i := 4) rfl (.inl rfl) (nd__law_errs).1 (nd__law_errs).2) (da_cons (de_var (i := 5) rfl (.inl rfl) (nd__law_winds).1 (nd__law_winds).2) (da_cons (de_var (i := 6) rfl (.inl rfl) (nd__law_lost).1 (nd__law_lost).2) (da_nil) rfl) rfl) rfl) rfl)) (dss_nil)))
abbrev N_law : List Str := ["_law_script", "_law_bag_here", "_law_turn", "_law_show_here", "_law_k", "_law_night_here", "_law_said", "_law_due", "_law_told", "_law_falling", "_law_one", "_law_fall_here"]
theorem sc_law : FnScope N_law ["_law_script"] (defScope (top 40)) := ⟨rfl, rfl, rfl, by decide +kernel, rfl, by decide +kernel, by decide +kernel⟩
theorem ok_law (T : Top K mg) : Good P wd K mg base "law" 40 ["_law_script"] 7 c_law := by
  obtain ⟨fd, F0⟩ := T.says.d.def_ 34 (d := dOf "law" 40) rfl
  have F : FunD K "law" "law" (defArgs (top 40)) (defBody (top 40)) (defScope (top 40)) [] [] (He.ga K "law") fd := F0
  refine ⟨fd, F, FunD.bindsN F (ps := ["_law_script"]) fun _ _ _ _ _ _ us hl => match us, hl with | [_], _ => rfl, FunD.bindsA F (ps := ["_law_script"]) fun _ _ _ _ _ _ us hl => match us, hl with | [_], _ => rfl, FnG.den (N := N_law) false F sc_law fun cdv A outer s H E hr hgd => PSs.nox ?_⟩
  have nd : N_law.Nodup := sc_law.nd
  have hu1 : (A.deeper (envOfC "law" (defScope (top 40)) s.heap.objs.size (He.ga K "law") cdv)).units + 1 < cLine := by have := hr.un; omega
  have hu64 : (A.deeper (envOfC "law" (defScope (top 40)) s.heap.objs.size (He.ga K "law") cdv)).units + 64 < cLine := by have := hr.un; omega
  have hu65 : (A.deeper (envOfC "law" (defScope (top 40)) s.heap.objs.size (He.ga K "law") cdv)).units + 65 < cLine := by have := hr.un; omega
  obtain ⟨fd__law_bag, F__law_bag, b__law_bag, _, G__law_bag⟩ := ok__law_bag (P := P) (wd := wd) (base := base) T
  obtain ⟨fd__law_show, F__law_show, b__law_show, _, G__law_show⟩ := ok__law_show (P := P) (wd := wd) (base := base) T
  obtain ⟨fd__law_night, F__law_night, b__law_night, _, G__law_night⟩ := ok__law_night (P := P) (wd := wd) (base := base) T
  obtain ⟨fd__law_fall, F__law_fall, b__law_fall, _, G__law_fall⟩ := ok__law_fall (P := P) (wd := wd) (base := base) T
  obtain ⟨fd_fall_of, F_fall_of, b_fall_of, _, G_fall_of⟩ := ok_fall_of (P := P) (wd := wd) (base := base) T
  obtain ⟨fd__law_alike, F__law_alike, b__law_alike, _, G__law_alike⟩ := ok__law_alike (P := P) (wd := wd) (base := base) T
  obtain ⟨fd_struck, F_struck, b_struck, _, G_struck⟩ := ok_struck (P := P) (wd := wd) (base := base) T
  exact dss_cons (ds_set (i := 1) nd rfl (.inl rfl) (de_call (ps := ["_law_script"]) G__law_bag (hr.mono (by decide)) hgd rfl (g__law_bag T) F__law_bag.kp b__law_bag (da_cons (de_var (i := 0) rfl (.inl rfl) (nd__law_script).1 (nd__law_script).2) (da_nil) rfl) (nd__law_bag).1 rfl rfl) rfl (.inl rfl)) (dss_cons (ds_for PassesOwn.never rfl (di_range1 rfl (g_range T) (da_cons (de_int) (da_nil) rfl) rfl) (dg_name (i := 2) nd rfl (.inl rfl) (.inl rfl)) (dss_cons (ds_set (i := 3) nd rfl (.inr rfl) (de_call (ps := ["_law_bag_here", "_law_most_pads", "_law_most_scenes"]) G__law_show (hr.mono (by decide)) hgd rfl (g__law_show T) F__law_show.kp b__law_show (da_cons (de_var (i := 1) rfl (.inl rfl) (nd__law_bag_here).1 (nd__law_bag_here).2) (da_cons (de_int) (da_cons (de_int) (da_nil) rfl) rfl) rfl) (nd__law_show).1 rfl rfl) rfl (.inl rfl)) (dss_cons (ds_for PassesOwn.never rfl (di_range1 rfl (g_range T) (da_cons (de_int) (da_nil) rfl) rfl) (dg_name (i := 4) nd rfl (.inl rfl) (.inl rfl)) (dss_cons (ds_set (i := 5) nd rfl (.inr rfl) (de_call (ps := ["_law_bag_here", "_law_show_here", "_law_often"]) G__law_night (hr.mono (by decide)) hgd rfl (g__law_night T) F__law_night.kp b__law_night (da_cons (de_var (i := 1) rfl (.inl rfl) (nd__law_bag_here).1 (nd__law_bag_here).2) (da_cons (de_var (i := 3) rfl (.inr (.inl rfl)) (nd__law_show_here).1 (nd__law_show_here).2) (da_cons (de_int) (da_nil) rfl) rfl) rfl) (nd__law_night).1 rfl rfl) rfl (.inl rfl)) (dss_cons (ds_par2 (i := 6) (j := 7) rfl nd rfl rfl (by decide) rfl rfl (da_cons (de_callB (cr_P (cr_repG T.sys hgd hu64)) rfl (g_repr T) bt_repr (da_cons (de_lst (da_cons (de_var (i := 3) rfl (.inr (.inl rfl)) (nd__law_show_here).1 (nd__law_show_here).2) (da_cons (de_var (i := 5) rfl (.inr (.inl rfl)) (nd__law_night_here).1 (nd__law_night_here).2) (da_nil) rfl) rfl)) (da_nil) rfl) (by decide) (nd_repr).1 rfl rfl) (da_cons (de_lc (own := [("_law_one", 10)]) { hc := rfl, hN := nd, hi := di_range1 rfl (g_range T) (da_cons (de_callB (cr_P cr_lenG) rfl (g_len T) bt_len (da_cons (de_ix hu1 (de_var (i := 3) rfl (.inr (.inl rfl)) (nd__law_show_here).1 (nd__law_show_here).2) (de_int) (fun _ _ => rfl)) (da_nil) rfl) (by decide) (nd_len).1 rfl rfl) (da_nil) rfl) rfl, ok := blkOk_by (N := N_law) (sc := defScope (top 40)) (by decide +kernel), hg := fun _ _ _ _ _ => dv_name (i := 10) nd rfl (.inl rfl) (.inr rfl) (by decide), ht := fun _ _ _ _ _ => dts_nil, he := fun _ _ _ _ _ => de_call (ps := ["_law_show_here", "_law_night_here", "_law_carrier"]) G__law_fall (hr.mono (by decide)) hgd rfl (g__law_fall T) F__law_fall.kp b__law_fall (da_cons (de_var (i := 3) rfl (.inr (.inl rfl)) (nd__law_show_here).1 (nd__law_show_here).2) (da_cons (de_var (i := 5) rfl (.inr (.inl rfl)) (nd__law_night_here).1 (nd__law_night_here).2) (da_cons (de_var (i := 10) rfl (.inl rfl) (nd__law_one).1 (nd__law_one).2) (da_nil) rfl) rfl) rfl) (nd__law_fall).1 rfl rfl, hs := fun _ => rfl }) (da_nil) rfl) rfl) rfl rfl) (dss_cons (ds_setLc (i := 8) (own := [("_law_one", 10)]) { hc := rfl, hN := nd, hi := di_range1 rfl (g_range T) (da_cons (de_callB (cr_P cr_lenG) rfl (g_len T) bt_len (da_cons (de_ix hu1 (de_var (i := 3) rfl (.inr (.inl rfl)) (nd__law_show_here).1 (nd__law_show_here).2) (de_int) (fun _ _ => rfl)) (da_nil) rfl) (by decide) (nd_len).1 rfl rfl) (da_nil) rfl) rfl, ok := blkOk_by (N := N_law) (sc := defScope (top 40)) (by decide +kernel), hg := fun _ _ _ _ _ => dv_name (i := 10) nd rfl (.inl rfl) (.inr rfl) (by decide), ht := fun _ _ _ _ _ => dts_nil, he := fun _ _ _ _ _ => de_call (ps := ["show", "night", "carrier"]) G_fall_of (hr.mono (by decide)) hgd rfl (g_fall_of T) F_fall_of.kp b_fall_of (da_cons (de_var (i := 3) rfl (.inr (.inl rfl)) (nd__law_show_here).1 (nd__law_show_here).2) (da_cons (de_var (i := 5) rfl (.inr (.inl rfl)) (nd__law_night_here).1 (nd__law_night_here).2) (da_cons (de_var (i := 10) rfl (.inl rfl) (nd__law_one).1 (nd__law_one).2) (da_nil) rfl) rfl) rfl) (nd_fall_of).1 rfl rfl, hs := fun _ => rfl } rfl rfl rfl) (dss_cons (ds_set (i := 9) nd rfl (.inl rfl) (de_callTy (cr_P cr_tupG) rfl (g_tuple T) bt_tuple (da_cons (de_lc (own := [("_law_one", 10), ("_law_fall_here", 11)]) { hc := rfl, hN := nd, hi := di_enum rfl (g_enumerate T) (da_cons (de_var (i := 7) rfl (.inl rfl) (nd__law_due).1 (nd__law_due).2) (da_nil) rfl) rfl, ok := blkOk_by (N := N_law) (sc := defScope (top 40)) (by decide +kernel), hg := fun _ _ _ _ _ => dv_tup rfl (dvs_cons (dv_name (i := 10) nd rfl (.inl rfl) (.inr rfl) (by decide)) (dvs_cons (dv_name (i := 11) nd rfl (.inl rfl) (.inr rfl) (by decide)) (dvs_nil) rfl) rfl) rfl rfl, ht := fun _ _ _ _ _ => dts_one (dt_cmp op_isntP (de_var (i := 11) rfl (.inl rfl) (nd__law_fall_here).1 (nd__law_fall_here).2) (de_non) (nomark _)), he := fun _ _ _ _ _ => de_var (i := 10) rfl (.inl rfl) (nd__law_one).1 (nd__law_one).2, hs := fun _ => rfl }) (da_nil) rfl) (by decide) (nd_tuple).1 rfl rfl) rfl (.inl rfl)) (dss_cons (ds_if (PW.pt (dw_or (dt_not (dt_val (de_call (ps := ["_law_found", "_law_due"]) G__law_alike (hr.mono (by decide)) hgd rfl (g__law_alike T) F__law_alike.kp b__law_alike (da_cons (de_var (i := 8) rfl (.inl rfl) (nd__law_told).1 (nd__law_told).2) (da_cons (de_var (i := 7) rfl (.inl rfl) (nd__law_due).1 (nd__law_due).2) (da_nil) rfl) rfl) (nd__law_alike).1 rfl rfl) (fun _ => rfl))) (dw_or1 (dt_not (dt_val (de_call (ps := ["_law_found", "_law_due"]) G__law_alike (hr.mono (by decide)) hgd rfl (g__law_alike T) F__law_alike.kp b__law_alike (da_cons (de_op op_mulP (de_lst (da_cons (de_call (ps := ["show", "night"]) G_struck (hr.mono (by decide)) hgd rfl (g_struck T) F_struck.kp b_struck (da_cons (de_var (i := 3) rfl (.inr (.inl rfl)) (nd__law_show_here).1 (nd__law_show_here).2) (da_cons (de_var (i := 5) rfl (.inr (.inl rfl)) (nd__law_night_here).1 (nd__law_night_here).2) (da_nil) rfl) rfl) (nd_struck).1 rfl rfl) (da_nil) rfl)) (de_int)) (da_cons (de_op op_mulP (de_lst (da_cons (de_var (i := 9) rfl (.inl rfl) (nd__law_falling).1 (nd__law_falling).2) (da_nil) rfl)) (de_int)) (da_nil) rfl) rfl) (nd__law_alike).1 rfl rfl) (fun _ => rfl)))))) (dss_cons (ds_ret (de_bl)) (dss_nil)) (dss_nil)) (dss_cons (ds_if (dt_cmp (op_neP hu64) (de_callB (cr_P (cr_repG T.sys hgd hu64)) rfl (g_repr T) bt_repr (da_cons (de_lst (da_cons (de_var (i := 3) rfl (.inr (.inl rfl)) (nd__law_show_here).1 (nd__law_show_here).2) (da_cons (de_var (i := 5) rfl (.inr (.inl rfl)) (nd__law_night_here).1 (nd__law_night_here).2) (da_nil) rfl) rfl)) (da_nil) rfl) (by decide) (nd_repr).1 rfl rfl) (de_var (i := 6) rfl (.inl rfl) (nd__law_said).1 (nd__law_said).2) (nomark _)) (dss_cons (ds_ret (de_bl)) (dss_nil)) (dss_nil)) (dss_nil))))))) (fun _ => rfl)) (dss_nil))) (fun _ => rfl)) (dss_cons (ds_ret (de_bl)) (dss_nil)))
end
theorem facts {P : Program} {wd : World} {K : PySem.W.Frag} {h : Heap} {mg : Str → Option Value} {f : Addr} (X : K.In h) (G : h.Ns mainGlobals mg) (hfa : mg ("law" : Str) = some (.ref f)) (c : SaysK bls fas fns K) :
    ∃ fd : FuncData, (∀ (s : Shared) (v : Value), BindsTo s fd ⟨[v], []⟩ [("_law_script", v)]) ∧ ∀ base : Heap, K.In base → base.Ns mainGlobals mg → FnG P wd K mg base 7 f fd ["_law_script"] (spF K 1 c_law) := by
  have T : Top K mg := ⟨c, h, X, G⟩
  have e := hfa.symm.trans (g_law T)
  cases e
  have bnd : ∀ base : Heap, Good P wd K mg base "law" 40 ["_law_script"] 7 c_law := fun base => ok_law T
  obtain ⟨fd, F, _, b, _⟩ := bnd h
  refine ⟨fd, fun s v => b s [v] rfl, fun base _ _ => ?_⟩
  obtain ⟨fd2, F2, _, _, G2⟩ := bnd base
  have e2 : fd2 = fd := by
    obtain ⟨oc, od, dV, kV, doc, pm, an, cdv, ct, osl, e, lk, _⟩ := F.ex
    obtain ⟨oc2, od2, dV2, kV2, doc2, pm2, an2, cdv2, ct2, osl2, e', lk2, _⟩ := F2.ex
    rw [lk] at lk2
    cases lk2
    rfl
  rw [← e2]
  exact G2
theorem of_mean (holds : ∀ ns : List Int, ns.length ≤ 63 → (∀ k ∈ ns, Builtin.Int.intBits k ≤ 1048576) → ∃ S', c_law [.v (.scr ns)] [] = some (.v (.bl true), S')) : PySem.Challenge.rw_lampsaloft_k61_falls_and_who_is_struck.Holds := by
  w_on; o_law
  refine HandSHeadRun.head_imp (r := R) (q := PySem.W.view R.prog [40]) (H := hk) (ob := ob) (M := 20000) (loose := loose) (d := HandSHeadRun.topDef R.prog 40) (kwd := []) ob_eq
     run (by kernel_rfl) (by kernel_rfl) (by kernel_rfl) (by rfl) (by first | assumption | decide +kernel) (by decide +kernel) ⟨rfl, rfl, rfl, rfl, rfl, by decide +kernel⟩ ?hw ?hc
  case hw => w_witness2
  case hc =>
    refine walk_go (l := PySem.Challenge.rw_lampsaloft_k61_falls_and_who_is_struck) (m := 63) (j := 7) (p := "_law_script") (c := c_law) rfl (by decide) (by kernel_rfl) ⟨rfl, by decide, by decide⟩ ?F holds
    intro w mg fa h Y G hmg0
    obtain ⟨K, KX, c⟩ := Y
    have hmg : mg ("law" : PySem.Str) = some (.ref fa) := by
      have e : (HandSHeadRun.topDef R.prog 40).name = ("law" : PySem.Str) := by kernel_rfl
      rw [← e]
      exact hmg0
    obtain ⟨fd, hb, hF⟩ := facts (P := R.prog) (wd := w) KX G hmg c
    exact ⟨K, fd, KX, hb, hF⟩
end K61


theorem PySem.Challenge.cw_lampsaloft_k61_falls_and_who_is_struck_holds : PySem.Challenge.rw_lampsaloft_k61_falls_and_who_is_struck.Holds := by
  exact K61.of_mean fun ns h _ => by
    obtain ⟨x, S', e, q⟩ := K61.mean ns h
    exact ⟨S', by rw [e, q]⟩
