import PyProof.Rows.All
import Wide.All
import OpenK.AllK
import Wide.FinOn
import HandS.ForMost
import HandS.ForExc
import HandS.TupAny
import HandS.Style
import HandS.Conv
import HandS.CallSlots
import HandS.ExcInit
import HandS.ExcField
import HandS.IsInst
import HandS.TryMany
import HandS.Deep
import HandS.Flow
import KE.KExcSuper
import HandS.More
import HandS.Comp
import HandS.Text
import HandS.RaiseMore
import HandS.WordsDict
import KE.IntTextLaws
import KE.GoesEnum
import HandS.Iter
import HandS.Ends
import HandS.Codes
import PySem.Challenge.RW_guardmill_k28_codes_as_texts_bent
set_option Elab.async false
set_option linter.all false
set_option maxRecDepth 100000
set_option autoImplicit false
/-! Gi1: plain data D, my own heap of mutable objects, how they are told by the layer's values and abstract heap -/
namespace Gm
open PySem PySem.Spec PyProof.Rows L2

/-- plain data: what a name may hold; loc: the place of a mutable object in my heap; frz: a list that is never written; fn: a def or class of the text by its number -/
inductive D where
  | non | bl (b : Bool) | int (i : Int) | str (s : List Nat) | tup (xs : List D) | frz (xs : List D) | loc (l : Nat) | fn (g : Nat)

/-- a mutable object -/
inductive MO where
  | lst (xs : List D)
  | ins (c : Nat) (fs : List (Nat × D))
  | dic (kvs : List (Key × D))
abbrev Hh := List MO
abbrev Ev := List (Option D)

structure Tab where
  P : Program
  w : World
  K : PySem.W.Frag
  mg : Str → Option Value
  base : Heap
  adr : Nat → Addr
  /-- the names of attributes by numbers -/
  nm : Nat → Str
  nmi : ∀ i j, nm i = nm j → i = j

def Imm : HO → Prop
  | .tup _ => True
  | .frz _ _ => True
  | .xd _ => True
  | _ => False
/-- what never changes stands on -/
def Ext (H H' : Hp) : Prop := ∀ a u, H a = some u → Imm u → H' a = some u
theorem Ext.refl (H : Hp) : Ext H H := fun _ _ h _ => h
theorem Ext.trans {H H1 H2 : Hp} (a : Ext H H1) (b : Ext H1 H2) : Ext H H2 := fun x u h i => b x u (a x u h i) i
theorem Ext.new {H : Hp} {p : Addr} {o : HO} (n : H p = none) : Ext H (upd H p o) := fun a u h _ => by
  rw [upd_ne (ne_of_none h n)]; exact h
theorem Ext.put {H : Hp} {p : Addr} {o o' : HO} (h0 : H p = some o) (hi : ¬ Imm o) : Ext H (upd H p o') := fun a u h i => by
  have : a ≠ p := by
    intro e
    subst e
    rw [h0] at h
    cases h
    exact hi i
  rw [upd_ne this]; exact h
theorem sqt_ext {K : PySem.W.Frag} {H H' : Hp} {a : Addr} {xs : List V} (e : Ext H H') (h : SqT K H a xs) : SqT K H' a xs := by
  rcases h with (h | ⟨o, h⟩) | h
  · exact .inl (.inl (e _ _ h trivial))
  · exact .inl (.inr ⟨o, e _ _ h trivial⟩)
  · exact .inr h
/-- a list that nobody writes -/
def FrzL (K : PySem.W.Frag) (H : Hp) (a : Addr) (xs : List V) : Prop :=
  (∃ o, H a = some (.frz o (.lst xs))) ∨
    ∃ (o : Obj) (its : Array Value) (n : Nat), K.lookup a = some o ∧ o.cls = .type "list" ∧ o.dict = none ∧ o.data = .seq its n ∧ its.size ≤ sizeLine ∧ Vals xs its.toList
theorem FrzL.sq {K : PySem.W.Frag} {H : Hp} {a : Addr} {xs : List V} (h : FrzL K H a xs) : SqL K H a xs := by
  rcases h with ⟨o, h⟩ | h
  · exact .inl (.inr ⟨o, h⟩)
  · exact .inr h
theorem FrzL.ext {K : PySem.W.Frag} {H H' : Hp} {a : Addr} {xs : List V} (e : Ext H H') (h : FrzL K H a xs) : FrzL K H' a xs := by
  rcases h with ⟨o, h⟩ | h
  · exact .inl ⟨o, e _ _ h trivial⟩
  · exact .inr h

section
variable (T : Tab) (ρ : List Addr) (H : Hp)
mutual
/-- v tells d -/
def Rp : D → V → Prop
  | .non, v => v = .non
  | .bl b, v => v = .bl b
  | .int i, v => v = .int i
  | .str s, v => v = .str ⟨s.toArray⟩ ∧ ∀ c ∈ s, c < 1114112
  | .tup xs, v => ∃ a vs, v = .ref a ∧ SqT T.K H a vs ∧ Rps xs vs
  | .frz xs, v => ∃ a vs, v = .ref a ∧ FrzL T.K H a vs ∧ Rps xs vs
  | .loc l, v => ∃ a, v = .ref a ∧ ρ[l]? = some a
  | .fn g, v => v = .ref (T.adr g)
def Rps : List D → List V → Prop
  | [], vs => vs = []
  | d :: ds, vs => ∃ v r, vs = v :: r ∧ Rp d v ∧ Rps ds r
end
end
section
variable {T : Tab} {ρ ρ' : List Addr} {H H' : Hp}
theorem pre_get {α : Type} {l l' : List α} (h : l <+: l') {i : Nat} {x : α} (e : l[i]? = some x) : l'[i]? = some x := by
  obtain ⟨t, rfl⟩ := h
  have hi : i < l.length := (List.getElem?_eq_some_iff.mp e).1
  rw [List.getElem?_append_left hi]; exact e
mutual
theorem Rp.mono (p : ρ <+: ρ') (e : Ext H H') : ∀ {d : D} {v : V}, Rp T ρ H d v → Rp T ρ' H' d v
  | .non, _, h => by simpa [Rp] using h
  | .bl _, _, h => by simpa [Rp] using h
  | .int _, _, h => by simpa [Rp] using h
  | .str _, _, h => by rw [Rp] at h ⊢; exact h
  | .tup xs, v, h => by
    rw [Rp] at h ⊢
    obtain ⟨a, vs, h1, h2, h3⟩ := h
    exact ⟨a, vs, h1, sqt_ext e h2, Rps.mono p e h3⟩
  | .frz xs, v, h => by
    rw [Rp] at h ⊢
    obtain ⟨a, vs, h1, h2, h3⟩ := h
    exact ⟨a, vs, h1, h2.ext e, Rps.mono p e h3⟩
  | .loc l, v, h => by
    rw [Rp] at h ⊢
    obtain ⟨a, h1, h2⟩ := h
    exact ⟨a, h1, pre_get p h2⟩
  | .fn _, _, h => by simpa [Rp] using h
theorem Rps.mono (p : ρ <+: ρ') (e : Ext H H') : ∀ {ds : List D} {vs : List V}, Rps T ρ H ds vs → Rps T ρ' H' ds vs
  | [], _, h => by simpa [Rps] using h
  | d :: ds, _, h => by
    rw [Rps] at h ⊢
    obtain ⟨v, r, h1, h2, h3⟩ := h
    exact ⟨v, r, h1, Rp.mono p e h2, Rps.mono p e h3⟩
end
theorem rp_non : Rp T ρ H .non .non := by rw [Rp]
theorem rp_bl {b : Bool} : Rp T ρ H (.bl b) (.bl b) := by rw [Rp]
theorem rp_int {i : Int} : Rp T ρ H (.int i) (.int i) := by rw [Rp]
theorem rp_str {s : List Nat} (h : ∀ c ∈ s, c < 1114112) : Rp T ρ H (.str s) (.str ⟨s.toArray⟩) := by rw [Rp]; exact ⟨rfl, h⟩
theorem rp_tup {a : Addr} {xs : List D} {vs : List V} (h : SqT T.K H a vs) (r : Rps T ρ H xs vs) : Rp T ρ H (.tup xs) (.ref a) := by rw [Rp]; exact ⟨a, vs, rfl, h, r⟩
theorem Rps.nil : Rps T ρ H [] [] := by simp [Rps]
theorem Rps.cons {d : D} {v : V} {ds : List D} {vs : List V} (h : Rp T ρ H d v) (t : Rps T ρ H ds vs) : Rps T ρ H (d :: ds) (v :: vs) := by
  rw [Rps]; exact ⟨v, vs, rfl, h, t⟩
theorem Rps.nil_inv {vs : List V} (h : Rps T ρ H [] vs) : vs = [] := by simpa [Rps] using h
theorem Rps.cons_inv {d : D} {ds : List D} {vs : List V} (h : Rps T ρ H (d :: ds) vs) : ∃ v r, vs = v :: r ∧ Rp T ρ H d v ∧ Rps T ρ H ds r := by
  rw [Rps] at h; exact h
theorem Rps.length : ∀ {ds : List D} {vs : List V}, Rps T ρ H ds vs → vs.length = ds.length
  | [], _, h => by rw [h.nil_inv]; rfl
  | d :: ds, _, h => by
    obtain ⟨v, r, rfl, _, t⟩ := h.cons_inv
    simp [t.length]
theorem Rps.get : ∀ {ds : List D} {vs : List V} {i : Nat} {d : D}, Rps T ρ H ds vs → ds[i]? = some d → ∃ v, vs[i]? = some v ∧ Rp T ρ H d v
  | [], _, _, _, _, e => by simp at e
  | x :: ds, _, 0, d, h, e => by
    obtain ⟨v, r, rfl, h1, _⟩ := h.cons_inv
    simp at e; subst e
    exact ⟨v, rfl, h1⟩
  | x :: ds, _, i + 1, d, h, e => by
    obtain ⟨v, r, rfl, _, t⟩ := h.cons_inv
    obtain ⟨w, q1, q2⟩ := t.get (i := i) (d := d) (by simpa using e)
    exact ⟨w, by simpa using q1, q2⟩
theorem Rps.get' : ∀ {ds : List D} {vs : List V} {i : Nat} {v : V}, Rps T ρ H ds vs → vs[i]? = some v → ∃ d, ds[i]? = some d ∧ Rp T ρ H d v
  | [], _, _, _, h, e => by rw [h.nil_inv] at e; simp at e
  | x :: ds, _, 0, d, h, e => by
    obtain ⟨v, r, rfl, h1, _⟩ := h.cons_inv
    simp at e; subst e
    exact ⟨x, rfl, h1⟩
  | x :: ds, _, i + 1, d, h, e => by
    obtain ⟨v, r, rfl, _, t⟩ := h.cons_inv
    obtain ⟨w, q1, q2⟩ := t.get' (i := i) (v := d) (by simpa using e)
    exact ⟨w, by simpa using q1, q2⟩
theorem Rps.append : ∀ {ds es : List D} {vs us : List V}, Rps T ρ H ds vs → Rps T ρ H es us → Rps T ρ H (ds ++ es) (vs ++ us)
  | [], _, _, _, h, t => by rw [h.nil_inv]; simpa using t
  | d :: ds, _, _, _, h, t => by
    obtain ⟨v, r, rfl, h1, h2⟩ := h.cons_inv
    exact Rps.cons h1 (h2.append t)
theorem Rps.one {d : D} {v : V} (h : Rp T ρ H d v) : Rps T ρ H [d] [v] := Rps.cons h Rps.nil
theorem Rps.set : ∀ {ds : List D} {vs : List V} {d : D} {v : V} (i : Nat), Rps T ρ H ds vs → Rp T ρ H d v → Rps T ρ H (ds.set i d) (vs.set i v)
  | [], _, _, _, _, h, _ => by rw [h.nil_inv]; exact Rps.nil
  | x :: ds, _, d, v, 0, h, q => by
    obtain ⟨w, r, rfl, h1, h2⟩ := h.cons_inv
    exact Rps.cons q h2
  | x :: ds, _, d, v, i + 1, h, q => by
    obtain ⟨w, r, rfl, h1, h2⟩ := h.cons_inv
    exact Rps.cons h1 (h2.set i q)
theorem Rps.take : ∀ {ds : List D} {vs : List V} (n : Nat), Rps T ρ H ds vs → Rps T ρ H (ds.take n) (vs.take n)
  | [], _, n, h => by rw [h.nil_inv]; simp [Rps.nil]
  | x :: ds, _, 0, h => by simp [Rps.nil]
  | x :: ds, _, n + 1, h => by
    obtain ⟨w, r, rfl, h1, h2⟩ := h.cons_inv
    exact Rps.cons h1 (h2.take n)
theorem Rps.drop : ∀ {ds : List D} {vs : List V} (n : Nat), Rps T ρ H ds vs → Rps T ρ H (ds.drop n) (vs.drop n)
  | [], _, n, h => by rw [h.nil_inv]; simp [Rps.nil]
  | x :: ds, _, 0, h => by simpa using h
  | x :: ds, _, n + 1, h => by
    obtain ⟨w, r, rfl, h1, h2⟩ := h.cons_inv
    simpa using h2.drop n
theorem Rps.dropLast : ∀ {ds : List D} {vs : List V}, Rps T ρ H ds vs → Rps T ρ H ds.dropLast vs.dropLast := fun {ds vs} h => by
  rw [List.dropLast_eq_take, List.dropLast_eq_take, h.length]
  exact h.take _
theorem Rps.reverse : ∀ {ds : List D} {vs : List V}, Rps T ρ H ds vs → Rps T ρ H ds.reverse vs.reverse
  | [], _, h => by rw [h.nil_inv]; exact Rps.nil
  | x :: ds, _, h => by
    obtain ⟨w, r, rfl, h1, h2⟩ := h.cons_inv
    rw [List.reverse_cons, List.reverse_cons]
    exact h2.reverse.append (Rps.one h1)
end

/-! ### fields, dicts -/
def Flds (T : Tab) (ρ : List Addr) (H : Hp) (fs : List (Nat × D)) (vfs : List (Str × V)) : Prop := Paired (fun p q => T.nm p.1 = q.1 ∧ Rp T ρ H p.2 q.2) fs vfs
def Kvs (T : Tab) (ρ : List Addr) (H : Hp) (fs : List (Key × D)) (vfs : List (Key × V)) : Prop := Paired (fun p q => p.1 = q.1 ∧ Rp T ρ H p.2 q.2) fs vfs
/-- the object at a tells o -/
def OR (T : Tab) (ρ : List Addr) (H : Hp) (a : Addr) : MO → Prop
  | .lst xs => ∃ vs, H a = some (.lst vs) ∧ Rps T ρ H xs vs
  | .ins c fs => ∃ dx vfs, H a = some (.ins (T.adr c) dx vfs) ∧ Flds T ρ H fs vfs
  | .dic kvs => ∃ vkvs, H a = some (.dK vkvs) ∧ Kvs T ρ H kvs vkvs
structure HeapR (T : Tab) (ρ : List Addr) (M : Hh) (H : Hp) : Prop where
  len : ρ.length = M.length
  obj : ∀ (l : Nat) (o : MO) (a : Addr), M[l]? = some o → ρ[l]? = some a → OR T ρ H a o
  inj : ∀ (l l' : Nat) (a : Addr), ρ[l]? = some a → ρ[l']? = some a → l = l'
structure EnvR (T : Tab) (ρ : List Addr) (H : Hp) (env : Ev) (σ : L2.St) : Prop where
  len : env.length = σ.length
  at_ : ∀ (i : Nat) (d : D), env[i]? = some (some d) → ∃ v, σ[i]? = some (some v) ∧ Rp T ρ H d v
/-- from (ρ, H) on to (ρ', M', H') -/
structure Stp (T : Tab) (ρ : List Addr) (H : Hp) (ρ' : List Addr) (M' : Hh) (H' : Hp) : Prop where
  pre : ρ <+: ρ'
  hr : HeapR T ρ' M' H'
  ext : Ext H H'

section
variable {T : Tab} {ρ ρ' ρ1 ρ2 : List Addr} {H H' H1 H2 : Hp} {M M' M1 M2 : Hh} {env : Ev} {σ : L2.St} {a p : Addr} {l : Nat} {o : MO}
theorem Flds.mono (q : ρ <+: ρ') (e : Ext H H') {fs : List (Nat × D)} {vfs : List (Str × V)} (h : Flds T ρ H fs vfs) : Flds T ρ' H' fs vfs := L2.Paired.mapP h fun _ _ z => ⟨z.1, z.2.mono q e⟩
theorem Kvs.mono (q : ρ <+: ρ') (e : Ext H H') {fs : List (Key × D)} {vfs : List (Key × V)} (h : Kvs T ρ H fs vfs) : Kvs T ρ' H' fs vfs := L2.Paired.mapP h fun _ _ z => ⟨z.1, z.2.mono q e⟩
theorem OR.mono (q : ρ <+: ρ') (e : Ext H H') (s : H' a = H a) (h : OR T ρ H a o) : OR T ρ' H' a o := by
  cases o with
  | lst xs => obtain ⟨vs, h1, h2⟩ := h; exact ⟨vs, s.trans h1, h2.mono q e⟩
  | ins c fs => obtain ⟨dx, vs, h1, h2⟩ := h; exact ⟨dx, vs, s.trans h1, h2.mono q e⟩
  | dic kvs => obtain ⟨vs, h1, h2⟩ := h; exact ⟨vs, s.trans h1, h2.mono q e⟩
/-- a mutable object's place is tracked -/
theorem OR.there (h : OR T ρ H a o) : ∃ u, H a = some u ∧ ¬ Imm u := by
  cases o with
  | lst xs => obtain ⟨vs, h1, h2⟩ := h; exact ⟨_, h1, id⟩
  | ins c fs => obtain ⟨dx, vs, h1, h2⟩ := h; exact ⟨_, h1, id⟩
  | dic kvs => obtain ⟨vs, h1, h2⟩ := h; exact ⟨_, h1, id⟩
theorem Stp.refl (h : HeapR T ρ M H) : Stp T ρ H ρ M H := ⟨List.prefix_rfl, h, Ext.refl H⟩
theorem Stp.trans (a : Stp T ρ H ρ1 M1 H1) (b : Stp T ρ1 H1 ρ2 M2 H2) : Stp T ρ H ρ2 M2 H2 := ⟨a.pre.trans b.pre, b.hr, a.ext.trans b.ext⟩
theorem Rp.stp {d : D} {v : V} (s : Stp T ρ H ρ' M' H') (h : Rp T ρ H d v) : Rp T ρ' H' d v := h.mono s.pre s.ext
theorem Rps.stp {d : List D} {v : List V} (s : Stp T ρ H ρ' M' H') (h : Rps T ρ H d v) : Rps T ρ' H' d v := h.mono s.pre s.ext
theorem EnvR.stp (s : Stp T ρ H ρ' M' H') (h : EnvR T ρ H env σ) : EnvR T ρ' H' env σ := ⟨h.len, fun i d e => by
  obtain ⟨v, h1, h2⟩ := h.at_ i d e
  exact ⟨v, h1, h2.stp s⟩⟩
theorem EnvR.set {i : Nat} {d : D} {v : V} (h : EnvR T ρ H env σ) (r : Rp T ρ H d v) : EnvR T ρ H (env.set i (some d)) (σ.set i (some v)) := by
  refine ⟨by simp [h.len], fun j e hj => ?_⟩
  by_cases hij : i = j
  · subst hij
    by_cases hl : i < env.length
    · rw [List.getElem?_set_self hl] at hj
      cases hj
      exact ⟨v, by rw [List.getElem?_set_self (by rw [← h.len]; exact hl)], r⟩
    · rw [List.getElem?_eq_none (by simpa using hl)] at hj; cases hj
  · rw [List.getElem?_set_ne hij] at hj ⊢
    exact h.at_ j e hj
theorem EnvR.unset {i : Nat} (h : EnvR T ρ H env σ) (o : Option V) : EnvR T ρ H (env.set i none) (σ.set i o) := by
  refine ⟨by simp [h.len], fun j e hj => ?_⟩
  by_cases hij : i = j
  · subst hij
    by_cases hl : i < env.length
    · rw [List.getElem?_set_self hl] at hj; cases hj
    · rw [List.getElem?_eq_none (by simpa using hl)] at hj; cases hj
  · rw [List.getElem?_set_ne hij] at hj ⊢
    exact h.at_ j e hj
/-- a thing that is not told is laid (a tuple, an iterator, ..) -/
theorem HeapR.side {u : HO} (h : HeapR T ρ M H) (n : H p = none) : HeapR T ρ M (upd H p u) := by
  refine ⟨h.len, fun l o a e1 e2 => ?_, h.inj⟩
  have q := h.obj l o a e1 e2
  obtain ⟨w, hw, _⟩ := q.there
  exact q.mono List.prefix_rfl (Ext.new n) (upd_ne (ne_of_none hw n))
theorem Stp.side {u : HO} (h : HeapR T ρ M H) (n : H p = none) : Stp T ρ H ρ M (upd H p u) := ⟨List.prefix_rfl, h.side n, Ext.new n⟩
/-- a new object: told -/
theorem HeapR.alloc {u : HO} (h : HeapR T ρ M H) (n : H p = none) (hu : ∀ r : ρ <+: ρ ++ [p], OR T (ρ ++ [p]) (upd H p u) p o) : HeapR T (ρ ++ [p]) (M ++ [o]) (upd H p u) := by
  have pf : ρ <+: ρ ++ [p] := List.prefix_append _ _
  have old : ∀ {l : Nat} {a : Addr}, ρ[l]? = some a → a ≠ p := fun {l a} e => by
    have hl : l < M.length := by rw [← h.len]; exact (List.getElem?_eq_some_iff.mp e).1
    obtain ⟨w, hw, _⟩ := (h.obj l M[l] a (by simp [hl]) e).there
    exact ne_of_none hw n
  have sp : ∀ {l : Nat} {a : Addr}, (ρ ++ [p])[l]? = some a → (ρ[l]? = some a) ∨ (l = ρ.length ∧ a = p) := fun {l a} e => by
    by_cases hl : l < ρ.length
    · rw [List.getElem?_append_left hl] at e; exact .inl e
    · rw [List.getElem?_append_right (by omega)] at e
      have : l - ρ.length < 1 := by
        have := (List.getElem?_eq_some_iff.mp e).1
        simpa using this
      have hl0 : l - ρ.length = 0 := by omega
      rw [hl0] at e
      simp at e
      exact .inr ⟨by omega, e.symm⟩
  refine ⟨by simp [h.len], fun l o' a e1 e2 => ?_, fun l l' a e1 e2 => ?_⟩
  · rcases sp e2 with e2' | ⟨hl, ha⟩
    · have hl : l < M.length := by rw [← h.len]; exact (List.getElem?_eq_some_iff.mp e2').1
      rw [List.getElem?_append_left hl] at e1
      exact (h.obj l o' a e1 e2').mono pf (Ext.new n) (upd_ne (old e2'))
    · subst ha
      rw [hl, h.len] at e1
      simp at e1
      subst e1
      exact hu pf
  · rcases sp e1 with e1 | ⟨h1, ha⟩ <;> rcases sp e2 with e2 | ⟨h2, hb⟩
    · exact h.inj l l' a e1 e2
    · exact absurd hb (old e1)
    · exact absurd ha (old e2)
    · rw [h1, h2]
theorem Stp.alloc {u : HO} (h : HeapR T ρ M H) (n : H p = none) (hu : ∀ r : ρ <+: ρ ++ [p], OR T (ρ ++ [p]) (upd H p u) p o) : Stp T ρ H (ρ ++ [p]) (M ++ [o]) (upd H p u) := ⟨List.prefix_append _ _, h.alloc n hu, Ext.new n⟩
theorem loc_new (h : HeapR T ρ M H) : Rp T (ρ ++ [p]) H' (.loc M.length) (.ref p) := by
  rw [Rp]; exact ⟨p, rfl, by rw [← h.len]; simp⟩
/-- an object is written -/
theorem HeapR.put {u v : HO} {o' : MO} (h : HeapR T ρ M H) (e : ρ[l]? = some p) (hv : H p = some v) (nv : ¬ Imm v) (hu : OR T ρ (upd H p u) p o') : HeapR T ρ (M.set l o') (upd H p u) := by
  refine ⟨by simp [h.len], fun j o a e1 e2 => ?_, h.inj⟩
  by_cases hj : l = j
  · subst hj
    rw [e] at e2; cases e2
    have hl : l < M.length := by rw [← h.len]; exact (List.getElem?_eq_some_iff.mp e).1
    rw [List.getElem?_set_self hl] at e1
    cases e1
    exact hu
  · rw [List.getElem?_set_ne hj] at e1
    have : a ≠ p := fun z => hj (h.inj l j p e (z ▸ e2))
    exact (h.obj j o a e1 e2).mono List.prefix_rfl (Ext.put hv nv) (upd_ne this)
theorem Stp.put {u v : HO} {o' : MO} (h : HeapR T ρ M H) (e : ρ[l]? = some p) (hv : H p = some v) (nv : ¬ Imm v) (hu : OR T ρ (upd H p u) p o') : Stp T ρ H ρ (M.set l o') (upd H p u) := ⟨List.prefix_rfl, h.put e hv nv hu, Ext.put hv nv⟩
/-- what stands at a place -/
theorem HeapR.at_ {v : V} (h : HeapR T ρ M H) (r : Rp T ρ H (.loc l) v) (e : M[l]? = some o) : ∃ a, v = .ref a ∧ ρ[l]? = some a ∧ OR T ρ H a o := by
  rw [Rp] at r
  obtain ⟨a, h1, h2⟩ := r
  exact ⟨a, h1, h2, h.obj l o a e h2⟩
end

/-! ### results -/
inductive Res (α : Type) where
  | ok (a : α) (M : Hh)
  | exc (c : Nat) (fs : List (Nat × D)) (M : Hh)
  | bad
def Res.bind {α β : Type} (r : Res α) (f : α → Hh → Res β) : Res β :=
  match r with
  | .ok a M => f a M
  | .exc c fs M => .exc c fs M
  | .bad => .bad
def Res.ofO {α : Type} : Option (α × Hh) → Res α
  | some (a, M) => .ok a M
  | none => .bad
@[simp] theorem Res.bind_ok {α β : Type} (a : α) (M : Hh) (f : α → Hh → Res β) : (Res.ok a M).bind f = f a M := rfl
@[simp] theorem Res.bind_exc {α β : Type} (c : Nat) (fs : List (Nat × D)) (M : Hh) (f : α → Hh → Res β) : (Res.exc c fs M : Res α).bind f = .exc c fs M := rfl
@[simp] theorem Res.bind_bad {α β : Type} (f : α → Hh → Res β) : (Res.bad : Res α).bind f = .bad := rfl
@[simp] theorem Res.ofO_some {α : Type} (a : α) (M : Hh) : Res.ofO (some (a, M)) = .ok a M := rfl
@[simp] theorem Res.ofO_none {α : Type} : (Res.ofO none : Res α) = .bad := rfl

abbrev RelX (α β : Type) := Tab → List Addr → Hp → α → β → Prop
def RB : RelX Bool Bool := fun _ _ _ a b => a = b
/-- what a result asks of what follows -/
def Den {α β : Type} (T : Tab) (R : RelX α β) (W : WX) (σ : L2.St) (ρ : List Addr) (H : Hp) (r : Res α) (Q : β → Hp → Prop) : Prop :=
  match r with
  | .ok d M' => ∀ ρ' v H', Stp T ρ H ρ' M' H' → R T ρ' H' d v → Q v H'
  | .exc c fs M' => ∀ ρ' dd vfs H', Stp T ρ H ρ' M' H' → H' dd = some (.xd vfs) → Flds T ρ' H' fs vfs → W (.ref (T.adr c)) (some dd) σ H'
  | .bad => False
section
variable {T : Tab} {α β γ δ : Type} {R : RelX α β} {R2 : RelX γ δ} {W : WX} {σ : L2.St} {ρ ρ1 : List Addr} {H H1 : Hp} {M1 : Hh}
theorem Den.lift {r : Res α} {Q : β → Hp → Prop} (s : Stp T ρ H ρ1 M1 H1) (h : Den T R W σ ρ H r Q) : Den T R W σ ρ1 H1 r Q := by
  cases r with
  | ok d M' => exact fun ρ' v H' s' q => h ρ' v H' (s.trans s') q
  | exc c fs M' => exact fun ρ' dd vfs H' s' e q => h ρ' dd vfs H' (s.trans s') e q
  | bad => exact h
theorem Den.bind {r : Res α} {f : α → Hh → Res γ} {Q : δ → Hp → Prop} (h : Den T R2 W σ ρ H (r.bind f) Q) :
    Den T R W σ ρ H r (fun v H1 => ∃ ρ1 M1 d, Stp T ρ H ρ1 M1 H1 ∧ R T ρ1 H1 d v ∧ Den T R2 W σ ρ1 H1 (f d M1) Q) := by
  cases r with
  | ok d M' => exact fun ρ' v H' s' q => ⟨ρ', M', d, s', q, Den.lift s' h⟩
  | exc c fs M' => exact h
  | bad => exact h
theorem Den.mono {r : Res α} {Q Q' : β → Hp → Prop} (h : Den T R W σ ρ H r Q) (hq : ∀ v H', Q v H' → Q' v H') : Den T R W σ ρ H r Q' := by
  cases r with
  | ok d M' => exact fun ρ' v H' s' q => hq _ _ (h ρ' v H' s' q)
  | exc c fs M' => exact h
  | bad => exact h
end

/-! ### the readings by results -/
abbrev SMo (α : Type) := Ev → Hh → Res α
def tD {α β : Type} (T : Tab) (R : RelX α β) (W : WX) (m : SMo α) : L2.St → Hp → (β → Hp → Prop) → Prop := fun σ H Q =>
  ∃ ρ env M, EnvR T ρ H env σ ∧ HeapR T ρ M H ∧ Den T R W σ ρ H (m env M) Q
abbrev tE (T : Tab) (W : WX) (m : SMo D) : TE := tD T (fun T => Rp T) W m
abbrev tT (T : Tab) (W : WX) (m : SMo Bool) : TT := tD T RB W m
abbrev tA (T : Tab) (W : WX) (m : SMo (List D)) : TA := tD T (fun T => Rps T) W m
theorem PE.imp {X : Cx} {e : Expr} {t t' : TE} (h : PE X e t) (i : ∀ σ H Q, t' σ H Q → t σ H Q) : PE X e t' := ⟨fun pins s σ H Q I q => h.run pins s σ H Q I (i σ H Q q)⟩
theorem PT.imp {X : Cx} {e : Expr} {t t' : TT} (h : PT X e t) (i : ∀ σ H Q, t' σ H Q → t σ H Q) : PT X e t' := ⟨fun pins s σ H Q I q => h.run pins s σ H Q I (i σ H Q q)⟩
theorem PA.imp {X : Cx} {e : List Expr} {t t' : TA} (h : PA X e t) (i : ∀ σ H Q, t' σ H Q → t σ H Q) : PA X e t' := ⟨fun pos pins s σ H Q I q => h.run pos pins s σ H Q I (i σ H Q q)⟩
theorem PS.imp {X : Cx} {e : Stmt} {t t' : TS} (h : PS X e t) (i : ∀ D σ H, t' D σ H → t D σ H) : PS X e t' := ⟨fun pins s σ H D I q => h.run pins s σ H D I (i D σ H q)⟩
theorem PSs.imp {X : Cx} {e : List Stmt} {t t' : TS} (h : PSs X e t) (i : ∀ D σ H, t' D σ H → t D σ H) : PSs X e t' := ⟨fun pins s σ H D I q => h.run pins s σ H D I (i D σ H q)⟩
theorem tD.bind {α β γ δ : Type} {T : Tab} {R : RelX α β} {R2 : RelX γ δ} {W : WX} {m : SMo α} {f : α → SMo γ} {σ : L2.St} {H : Hp} {Q : δ → Hp → Prop} (h : tD T R2 W (fun env M => (m env M).bind fun d M1 => f d env M1) σ H Q) :
    tD T R W m σ H fun v H1 => ∃ ρ1 M1 d env, EnvR T ρ1 H1 env σ ∧ HeapR T ρ1 M1 H1 ∧ R T ρ1 H1 d v ∧ Den T R2 W σ ρ1 H1 (f d env M1) Q := by
  obtain ⟨ρ, env, M, he, hh, hd⟩ := h
  exact ⟨ρ, env, M, he, hh, Den.mono (Den.bind hd) fun v H' ⟨ρ1, M1, d, s, r, q⟩ => ⟨ρ1, M1, d, env, he.stp s, s.hr, r, q⟩⟩
end Gm

set_option Elab.async false
set_option linter.all false
set_option maxRecDepth 100000
set_option autoImplicit false
/-! Gi2: contexts, names, constants, displays, operators, comparisons, truth -/
namespace Gm
open PySem PySem.Spec PyProof.Rows L2

/-- what is known of the place where code stands -/
structure Good (T : Tab) (N : List Str) (sc : Scope) (k : Nat) (cm : Bool) (X : Cx) : Prop where
  hP : X.prog = T.P
  hw : X.w = T.w
  hK : X.K = T.K
  hmg : X.mg = T.mg
  hb : X.base = T.base
  hN : X.N = N
  hsc : X.env.scope = sc
  calm : X.calm = cm
  un : X.A.units + 200 < cLine
  nd : N.Nodup
  room : cm = true → Room (2 * k + 1) X.A ∧ X.A.guards = some []

section
variable (T : Tab) (N : List Str) (sc : Scope) (k : Nat) (cm : Bool)
def SE (e : Expr) (m : SMo D) : Prop := ∀ X W, Good T N sc k cm X → Takes X W → PE X e (tE T W m)
def ST (e : Expr) (m : SMo Bool) : Prop := ∀ X W, Good T N sc k cm X → Takes X W → PT X e (tT T W m)
def SW (e : Expr) (m : SMo Bool) : Prop := ∀ X W, Good T N sc k cm X → Takes X W → PW X e (tT T W m)
def SAs (e : List Expr) (m : SMo (List D)) : Prop := ∀ X W, Good T N sc k cm X → Takes X W → PA X e (tA T W m)
end

/-! ### the monad's words -/
def vVar (i : Nat) : SMo D := fun env M => match env[i]? with
  | some (some d) => .ok d M
  | _ => .bad
def vC (d : D) : SMo D := fun _ M => .ok d M
def vNil : SMo (List D) := fun _ M => .ok [] M
def vCons (a : SMo D) (r : SMo (List D)) : SMo (List D) := fun env M => (a env M).bind fun d M1 => (r env M1).bind fun ds M2 => .ok (d :: ds) M2
def vTup (a : SMo (List D)) : SMo D := fun env M => (a env M).bind fun ds M1 => if ds.length ≤ 16777216 then .ok (.tup ds) M1 else .bad
def vLst (a : SMo (List D)) : SMo D := fun env M => (a env M).bind fun ds M1 => if ds.length ≤ 16777216 then .ok (.loc M1.length) (M1 ++ [.lst ds]) else .bad
abbrev Op2 := D → D → Hh → Option (D × Hh)
abbrev Op1 := D → Hh → Option (D × Hh)
def vOp (f : Op2) (a b : SMo D) : SMo D := fun env M => (a env M).bind fun x M1 => (b env M1).bind fun y M2 => Res.ofO (f x y M2)
def vOp1 (f : Op1) (a : SMo D) : SMo D := fun env M => (a env M).bind fun x M1 => Res.ofO (f x M1)
def asB : D → Option Bool
  | .bl b => some b
  | _ => none
/-- a value that is True or False, as a test -/
def vTest (a : SMo D) : SMo Bool := fun env M => (a env M).bind fun x M1 => match x with
  | .bl b => .ok b M1
  | _ => .bad
def vIf (t : SMo Bool) (a b : SMo D) : SMo D := fun env M => (t env M).bind fun c M1 => match c with
  | true => a env M1
  | false => b env M1
def vAnd (t u : SMo Bool) : SMo Bool := fun env M => (t env M).bind fun c M1 => match c with
  | true => u env M1
  | false => .ok false M1
def vOr (t u : SMo Bool) : SMo Bool := fun env M => (t env M).bind fun c M1 => match c with
  | true => .ok true M1
  | false => u env M1
def vNot (t : SMo Bool) : SMo Bool := fun env M => (t env M).bind fun c M1 => .ok (!c) M1
def vBl (t : SMo Bool) : SMo D := fun env M => (t env M).bind fun c M1 => .ok (.bl c) M1
/-- truth of any value -/
def truD : D → Hh → Option Bool
  | .non, _ => some false
  | .bl b, _ => some b
  | .int i, _ => some (i != 0)
  | .str s, _ => if s.length ≤ 16777216 then some (!s.isEmpty) else none
  | .tup xs, _ => some (!xs.isEmpty)
  | .frz xs, _ => some (!xs.isEmpty)
  | .loc l, M => match M[l]? with
    | some (.lst xs) => some (!xs.isEmpty)
    | some (.dic kvs) => some (!kvs.isEmpty)
    | _ => none
  | .fn _, _ => none
def vTru (a : SMo D) : SMo Bool := fun env M => (a env M).bind fun x M1 => match truD x M1 with
  | some b => .ok b M1
  | none => .bad
/-- a and b, a or b as values of any kind -/
def vAndT (a b : SMo D) : SMo D := fun env M => (a env M).bind fun x M1 => match truD x M1 with
  | some true => b env M1
  | some false => .ok x M1
  | none => .bad
def vOrT (a b : SMo D) : SMo D := fun env M => (a env M).bind fun x M1 => match truD x M1 with
  | some true => .ok x M1
  | some false => b env M1
  | none => .bad

section
variable {T : Tab} {N : List Str} {sc : Scope} {k : Nat} {cm : Bool} {e a b c : Expr} {ma mb mc : SMo D} {ta tb : SMo Bool} {es : List Expr} {mas : SMo (List D)} {pos p' : Pos} {x : Str}
theorem sl_eq : sizeLine = 16777216 := sizeLine_eq
theorem Good.K' {X : Cx} (g : Good T N sc k cm X) : X.K = T.K := g.hK

theorem se_var (i : Nat) (hN : N[i]? = some x) (hv : Vis sc x) (hd : (x == ("__debug__" : Str)) = false) (hcd : (x == ("__classdict__" : Str)) = false) : SE T N sc k cm (.Name x pos) (vVar i) := fun X W g tk => by
  refine PE.imp (pe_var (i := i) (by rw [g.hN]; exact hN) (by rw [g.hsc]; exact hv) hd hcd) fun σ H Q h => ?_
  obtain ⟨ρ, env, M, he, hh, hq⟩ := h
  unfold vVar at hq
  split at hq
  · rename_i d e
    obtain ⟨v, e1, r⟩ := he.at_ i d e
    exact ⟨v, e1, hq ρ v H (Stp.refl hh) r⟩
  · exact hq.elim
theorem const_ok {X : Cx} {W : WX} {e : Expr} {v : V} {d : D} (h : PE X e (tC v)) (r : ∀ ρ H, Rp T ρ H d v) : PE X e (tE T W (vC d)) := by
  refine PE.imp h fun σ H Q h => ?_
  obtain ⟨ρ, env, M, he, hh, hq⟩ := h
  exact hq ρ v H (Stp.refl hh) (r ρ H)
theorem se_int {i : Int} {j : Nat} : SE T N sc k cm (.Constant (.int i) j pos) (vC (.int i)) := fun X W g tk => const_ok pe_int fun ρ H => by simp [Rp]
theorem se_bl {i : Bool} {j : Nat} : SE T N sc k cm (.Constant (.bool i) j pos) (vC (.bl i)) := fun X W g tk => const_ok pe_bl fun ρ H => by simp [Rp]
theorem se_non {j : Nat} : SE T N sc k cm (.Constant .none j pos) (vC .non) := fun X W g tk => const_ok pe_non fun ρ H => by simp [Rp]
theorem se_str {x : Str} {s : List Nat} {j : Nat} (hx : x = ⟨s.toArray⟩) (ho : (s.all fun c => decide (c < 1114112)) = true) : SE T N sc k cm (.Constant (.str x) j pos) (vC (.str s)) := fun X W g tk => const_ok pe_str fun ρ H => by
  rw [Rp]
  refine ⟨by rw [hx], fun c hc => ?_⟩
  exact of_decide_eq_true (List.all_eq_true.mp ho c hc)
/-- a constant of the module -/
def GC (T : Tab) (x : Str) (d : D) : Prop := ∃ u v, T.mg x = some u ∧ RelV v u ∧ ∀ ρ H, Rp T ρ H d v
theorem se_glob {d : D} (hg : sc.names.lookup x = some .globalImplicit) (hc : GC T x d) (hd : (x == ("__debug__" : Str)) = false) : SE T N sc k cm (.Name x pos) (vC d) := fun X W g tk => by
  obtain ⟨u, v, h1, h2, h3⟩ := hc
  refine const_ok (pe_glob (X := X) (x := x) (v := v) (u := u) ?_ ?_ h2 hd) h3
  · show X.env.kindOf x = _
    show X.env.scope.names.lookup x = _
    rw [g.hsc]; exact hg
  · rw [g.hmg]; exact h1
theorem sa_nil : SAs T N sc k cm [] vNil := fun X W g tk => by
  refine PA.imp pa_nil fun σ H Q h => ?_
  obtain ⟨ρ, env, M, he, hh, hq⟩ := h
  exact hq ρ [] H (Stp.refl hh) Rps.nil
theorem sa_cons (ha : SE T N sc k cm e ma) (hr : SAs T N sc k cm es mas) (hs : ∀ env, starEach (e :: es) env = (false, eval e env) :: starEach es env := by intro _; rfl) : SAs T N sc k cm (e :: es) (vCons ma mas) := fun X W g tk => by
  refine PA.imp (pa_cons (ha X W g tk) (hr X W g tk) (hs _)) fun σ H Q h => ?_
  obtain ⟨ρ, env, M, he, hh, hd⟩ := h
  refine ⟨ρ, env, M, he, hh, Den.mono (Den.bind hd) fun v H1 ⟨ρ1, M1, d, s1, r1, q1⟩ => ?_⟩
  refine ⟨ρ1, env, M1, he.stp s1, s1.hr, Den.mono (Den.bind q1) fun vs H2 ⟨ρ2, M2, ds, s2, r2, q2⟩ => ?_⟩
  exact q2 ρ2 (v :: vs) H2 (Stp.refl s2.hr) (Rps.cons (r1.stp s2) r2)
theorem se_tup {kk : Nat} (h : SAs T N sc k cm es mas) : SE T N sc k cm (.Tuple es kk pos) (vTup mas) := fun X W g tk => by
  refine PE.imp (pe_tup (h X W g tk)) fun σ H Q h => ?_
  obtain ⟨ρ, env, M, he, hh, hd⟩ := h
  refine ⟨ρ, env, M, he, hh, Den.mono (Den.bind hd) fun vs H1 ⟨ρ1, M1, ds, s1, r1, q1⟩ => ?_⟩
  split at q1
  · rename_i hl
    refine ⟨by rw [r1.length, sl_eq]; exact hl, fun p np => ?_⟩
    have st := Stp.side (u := .tup vs) s1.hr np
    exact q1 ρ1 _ _ st (rp_tup (SqT.of upd_same) (r1.stp st))
  · exact q1.elim
theorem se_lst (h : SAs T N sc k cm es mas) : SE T N sc k cm (.List es pos) (vLst mas) := fun X W g tk => by
  refine PE.imp (pe_lst (h X W g tk)) fun σ H Q h => ?_
  obtain ⟨ρ, env, M, he, hh, hd⟩ := h
  refine ⟨ρ, env, M, he, hh, Den.mono (Den.bind hd) fun vs H1 ⟨ρ1, M1, ds, s1, r1, q1⟩ => ?_⟩
  split at q1
  · rename_i hl
    refine ⟨by rw [r1.length, sl_eq]; exact hl, fun p np => ?_⟩
    have st := Stp.alloc (u := .lst vs) (o := .lst ds) s1.hr np fun pf => ⟨vs, upd_same, r1.mono pf (Ext.new np)⟩
    exact q1 _ _ _ st (loc_new s1.hr)
  · exact q1.elim

/-! ### operators on values -/
/-- a two-place operation of the layer does f -/
def rOp (T : Tab) (f : Op2) : R2 := fun x y H Q => ∃ ρ M d1 d2 d M', HeapR T ρ M H ∧ Rp T ρ H d1 x ∧ Rp T ρ H d2 y ∧ f d1 d2 M = some (d, M') ∧ ∀ ρ' v H', Stp T ρ H ρ' M' H' → Rp T ρ' H' d v → Q v H'
def OpG (T : Tab) (N : List Str) (sc : Scope) (k : Nat) (cm : Bool) (g : Value → Value → Sem Value) (f : Op2) : Prop := ∀ X, Good T N sc k cm X → OpR X g (rOp T f)
theorem op_use {W : WX} {f : Op2} {σ : L2.St} {H : Hp} {Q : VK} {t u : TE} (h : tE T W (vOp f ma mb) σ H Q) (ht : ∀ σ H Q, tE T W ma σ H Q → t σ H Q) (hu : ∀ σ H Q, tE T W mb σ H Q → u σ H Q) : tOp (rOp T f) t u σ H Q := by
  obtain ⟨ρ, env, M, he, hh, hd⟩ := h
  refine ht _ _ _ ⟨ρ, env, M, he, hh, Den.mono (Den.bind hd) fun v H1 ⟨ρ1, M1, d, s1, r1, q1⟩ => ?_⟩
  refine hu _ _ _ ⟨ρ1, env, M1, he.stp s1, s1.hr, Den.mono (Den.bind q1) fun w H2 ⟨ρ2, M2, d2, s2, r2, q2⟩ => ?_⟩
  cases e : f d d2 M2 with
  | none => rw [e] at q2; exact q2.elim
  | some z =>
    obtain ⟨d3, M3⟩ := z
    rw [e] at q2
    exact ⟨ρ2, M2, d, d2, d3, M3, s2.hr, r1.stp s2, r2, e, fun ρ' v' H' s r => q2 ρ' v' H' s r⟩
theorem se_op {op : Operator} {f : Op2} (ho : OpG T N sc k cm (binaryOp op) f) (ha : SE T N sc k cm a ma) (hb : SE T N sc k cm b mb) : SE T N sc k cm (.BinOp a op b pos) (vOp f ma mb) := fun X W g tk =>
  PE.imp (pe_op (ho X g) (ha X W g tk) (hb X W g tk)) fun σ H Q h => op_use h (fun _ _ _ h => h) fun _ _ _ h => h
theorem se_cmp {op : CmpOp} {f : Op2} (ho : OpG T N sc k cm (compareOp op) f) (ha : SE T N sc k cm a ma) (hb : SE T N sc k cm b mb) (hm : behindInMarks op b = false := by rfl) : SE T N sc k cm (.Compare a [op] [b] pos) (vOp f ma mb) := fun X W g tk =>
  PE.imp (pe_cmpR (ho X g) (ha X W g tk) (hb X W g tk) hm) fun σ H Q h => op_use h (fun _ _ _ h => h) fun _ _ _ h => h
theorem test_use {W : WX} {σ : L2.St} {H : Hp} {Q : Bool → Hp → Prop} (h : tT T W (vTest ma) σ H Q) : tE T W ma σ H fun x H' => ∃ k, x = .bl k ∧ Q k H' := by
  obtain ⟨ρ, env, M, he, hh, hd⟩ := h
  refine ⟨ρ, env, M, he, hh, Den.mono (Den.bind hd) fun v H1 ⟨ρ1, M1, d, s1, r1, q1⟩ => ?_⟩
  cases d with
  | bl b =>
    rw [Rp] at r1
    exact ⟨b, r1, q1 ρ1 b H1 (Stp.refl s1.hr) rfl⟩
  | _ => exact q1.elim
theorem st_cmp {op : CmpOp} {f : Op2} (ho : OpG T N sc k cm (compareOp op) f) (ha : SE T N sc k cm a ma) (hb : SE T N sc k cm b mb) (hm : behindInMarks op b = false := by rfl) : ST T N sc k cm (.Compare a [op] [b] pos) (vTest (vOp f ma mb)) := fun X W g tk =>
  PT.imp (pt_cmpR (ho X g) (ha X W g tk) (hb X W g tk) hm) fun σ H Q h => op_use (W := W) (test_use h) (fun _ _ _ h => h) fun _ _ _ h => h
/-- a op b op' c -/
def vChain (f g : Op2) (a b c : SMo D) : SMo D := fun env M => (a env M).bind fun x M1 => (b env M1).bind fun y M2 => (Res.ofO (f x y M2)).bind fun z M3 => match z with
  | .bl true => (c env M3).bind fun w M4 => Res.ofO (g y w M4)
  | .bl false => .ok (.bl false) M3
  | _ => .bad
theorem den_ofO {W : WX} {σ : L2.St} {ρ : List Addr} {H : Hp} {r : Option (D × Hh)} {Q : VK} (h : Den T (fun T => Rp T) W σ ρ H (Res.ofO r) Q) : ∃ d M', r = some (d, M') ∧ ∀ ρ' v H', Stp T ρ H ρ' M' H' → Rp T ρ' H' d v → Q v H' := by
  cases r with
  | none => exact h.elim
  | some z => obtain ⟨d, M'⟩ := z; exact ⟨d, M', rfl, h⟩
theorem den_ofO_bind {α β : Type} {R : RelX α β} {W : WX} {σ : L2.St} {ρ : List Addr} {H : Hp} {r : Option (D × Hh)} {f : D → Hh → Res α} {Q : β → Hp → Prop} (h : Den T R W σ ρ H ((Res.ofO r).bind f) Q) : ∃ d M', r = some (d, M') ∧ Den T R W σ ρ H (f d M') Q := by
  cases r with
  | none => exact h.elim
  | some z => obtain ⟨d, M'⟩ := z; exact ⟨d, M', rfl, h⟩
theorem chain_use {W : WX} {f g : Op2} {σ : L2.St} {H : Hp} {Q : VK} (h : tE T W (vChain f g ma mb mc) σ H Q) : tChain (rOp T f) (rOp T g) (tE T W ma) (tE T W mb) (tE T W mc) σ H Q := by
  obtain ⟨ρ, env, M, he, hh, hd⟩ := h
  refine ⟨ρ, env, M, he, hh, Den.mono (Den.bind hd) fun v H1 ⟨ρ1, M1, d, s1, r1, q1⟩ => ?_⟩
  refine ⟨ρ1, env, M1, he.stp s1, s1.hr, Den.mono (Den.bind q1) fun w H2 ⟨ρ2, M2, d2, s2, r2, q2⟩ => ?_⟩
  obtain ⟨z, M3, ez, q3⟩ := den_ofO_bind q2
  refine ⟨ρ2, M2, d, d2, z, M3, s2.hr, r1.stp s2, r2, ez, fun ρ3 v3 H3 s3 r3 => ?_⟩
  have q3 := Den.lift s3 q3
  cases z with
  | bl bb =>
    rw [Rp] at r3
    refine ⟨bb, r3, ?_⟩
    cases bb with
    | false => exact iteF (q3 ρ3 _ H3 (Stp.refl s3.hr) rp_bl)
    | true =>
      refine iteT ⟨ρ3, env, M3, ((he.stp s1).stp s2).stp s3, s3.hr, Den.mono (Den.bind q3) fun w4 H4 ⟨ρ4, M4, d4, s4, r4, q4⟩ => ?_⟩
      obtain ⟨d5, M5, e5, q5⟩ := den_ofO q4
      exact ⟨ρ4, M4, d2, d4, d5, M5, s4.hr, (r2.stp s3).stp s4, r4, e5, q5⟩
  | _ => exact q3.elim
theorem se_chain {op op' : CmpOp} {f g : Op2} (ho : OpG T N sc k cm (compareOp op) f) (ho' : OpG T N sc k cm (compareOp op') g) (ha : SE T N sc k cm a ma) (hb : SE T N sc k cm b mb) (hc : SE T N sc k cm c mc)
    (hm : lastMarks [op, op'] [b, c] = false := by with_unfolding_all rfl) : SE T N sc k cm (.Compare a [op, op'] [b, c] pos) (vChain f g ma mb mc) := fun X W gd tk =>
  PE.imp (pe_chain (ho X gd) (ho' X gd) (ha X W gd tk) (hb X W gd tk) (hc X W gd tk) hm) fun σ H Q h => chain_use h
theorem st_chain {op op' : CmpOp} {f g : Op2} (ho : OpG T N sc k cm (compareOp op) f) (ho' : OpG T N sc k cm (compareOp op') g) (ha : SE T N sc k cm a ma) (hb : SE T N sc k cm b mb) (hc : SE T N sc k cm c mc)
    (hm : lastMarks [op, op'] [b, c] = false := by with_unfolding_all rfl) : ST T N sc k cm (.Compare a [op, op'] [b, c] pos) (vTest (vChain f g ma mb mc)) := fun X W gd tk =>
  PT.imp (pt_chain (ho X gd) (ho' X gd) (ha X W gd tk) (hb X W gd tk) (hc X W gd tk) hm) fun σ H Q h => chain_use (test_use h)

/-! ### tests -/
theorem Good.tru {X : Cx} (g : Good T N sc k cm X) {ρ : List Addr} {M : Hh} {H : Hp} {d : D} {v : V} {bb : Bool} (hh : HeapR T ρ M H) (r : Rp T ρ H d v) (e : truD d M = some bb) : TruV X.K v H bb := by
  rw [g.hK]
  cases d with
  | non => rw [Rp] at r; subst r; cases e; rfl
  | bl b => rw [Rp] at r; subst r; cases e; rfl
  | int i => rw [Rp] at r; subst r; cases e; rfl
  | str s =>
    rw [Rp] at r; obtain ⟨r, _⟩ := r; subst r
    simp only [truD] at e
    split at e
    · rename_i hl
      cases e
      refine ⟨by rw [sl_eq]; exact hl, ?_⟩
      show (!s.isEmpty) = (((s.toArray.size : Nat) : Int) != 0)
      cases s with
      | nil => rfl
      | cons c s =>
        have : ((((c :: s).toArray.size : Nat) : Int) != 0) = true := by simp; omega
        rw [this]; rfl
    · cases e
  | tup xs =>
    rw [Rp] at r
    obtain ⟨a, vs, rfl, h2, h3⟩ := r
    cases e
    refine .inr (.inl ⟨vs, h2, ?_⟩)
    have := h3.length
    cases vs <;> cases xs <;> simp_all
  | frz xs =>
    rw [Rp] at r
    obtain ⟨a, vs, rfl, h2, h3⟩ := r
    cases e
    refine .inl ⟨vs, h2.sq, ?_⟩
    have := h3.length
    cases vs <;> cases xs <;> simp_all
  | loc l =>
    simp only [truD] at e
    split at e
    · rename_i xs em
      obtain ⟨a, rfl, ea, vs, h1, h2⟩ := hh.at_ r em
      cases e
      refine .inl ⟨vs, SqL.of h1, ?_⟩
      have := h2.length
      cases vs <;> cases xs <;> simp_all
    · rename_i kvs em
      obtain ⟨a, rfl, ea, vs, h1, h2⟩ := hh.at_ r em
      cases e
      refine .inr (.inr ⟨vs, h1, ?_⟩)
      have := Paired.length h2
      cases vs <;> cases kvs <;> simp_all
    · cases e
  | fn g => cases e
theorem st_tru (ha : SE T N sc k cm a ma) (he : ∀ env whole, isTrue a env whole = (do let v ← whole; standAt a.pos; holding [v] (truthy v)) := by intros; rfl) : ST T N sc k cm a (vTru ma) := fun X W g tk => by
  refine PT.imp (pt_truth (ha X W g tk) (he _)) fun σ H Q h => ?_
  obtain ⟨ρ, env, M, hev, hh, hd⟩ := h
  refine ⟨ρ, env, M, hev, hh, Den.mono (Den.bind hd) fun v H1 ⟨ρ1, M1, d, s1, r1, q1⟩ => ?_⟩
  cases e : truD d M1 with
  | none => simp only [e] at q1; exact q1.elim
  | some bb =>
    simp only [e] at q1
    exact ⟨bb, g.tru s1.hr r1 e, q1 ρ1 bb H1 (Stp.refl s1.hr) rfl⟩
theorem st_w (h : SW T N sc k cm e ta) : ST T N sc k cm e ta := fun X W g tk => (h X W g tk).pt
theorem sw_and1 (ha : ST T N sc k cm a ta) : SW T N sc k cm (.BoolOp .And [a] pos) ta := fun X W g tk => pw_and1 (ha X W g tk)
theorem sw_or1 (ha : ST T N sc k cm a ta) : SW T N sc k cm (.BoolOp .Or [a] pos) ta := fun X W g tk => pw_or1 (ha X W g tk)
theorem PW.imp {X : Cx} {e : Expr} {t t' : TT} (h : PW X e t) (i : ∀ σ H Q, t' σ H Q → t σ H Q) : PW X e t' := ⟨fun wh pins s σ H Q I q => h.run wh pins s σ H Q I (i σ H Q q)⟩
theorem sw_and (ha : ST T N sc k cm a ta) (hb : SW T N sc k cm (.BoolOp .And (b :: es) pos) tb) : SW T N sc k cm (.BoolOp .And (a :: b :: es) pos) (vAnd ta tb) := fun X W g tk => by
  refine PW.imp (pw_and (ha X W g tk) (hb X W g tk)) fun σ H Q h => ?_
  obtain ⟨ρ, env, M, hev, hh, hd⟩ := h
  refine ⟨ρ, env, M, hev, hh, Den.mono (Den.bind hd) fun v H1 ⟨ρ1, M1, d, s1, r1, q1⟩ => ?_⟩
  cases (show d = v from r1)
  cases v with
  | true => exact iteT ⟨ρ1, env, M1, hev.stp s1, s1.hr, q1⟩
  | false => exact iteF (q1 ρ1 false H1 (Stp.refl s1.hr) rfl)
theorem sw_or (ha : ST T N sc k cm a ta) (hb : SW T N sc k cm (.BoolOp .Or (b :: es) pos) tb) : SW T N sc k cm (.BoolOp .Or (a :: b :: es) pos) (vOr ta tb) := fun X W g tk => by
  refine PW.imp (pw_or (ha X W g tk) (hb X W g tk)) fun σ H Q h => ?_
  obtain ⟨ρ, env, M, hev, hh, hd⟩ := h
  refine ⟨ρ, env, M, hev, hh, Den.mono (Den.bind hd) fun v H1 ⟨ρ1, M1, d, s1, r1, q1⟩ => ?_⟩
  cases (show d = v from r1)
  cases v with
  | true => exact iteT (q1 ρ1 true H1 (Stp.refl s1.hr) rfl)
  | false => exact iteF ⟨ρ1, env, M1, hev.stp s1, s1.hr, q1⟩
theorem st_not (ha : ST T N sc k cm a ta) : ST T N sc k cm (.UnaryOp .Not a pos) (vNot ta) := fun X W g tk => by
  refine PT.imp (pt_not (ha X W g tk)) fun σ H Q h => ?_
  obtain ⟨ρ, env, M, hev, hh, hd⟩ := h
  refine ⟨ρ, env, M, hev, hh, Den.mono (Den.bind hd) fun v H1 ⟨ρ1, M1, d, s1, r1, q1⟩ => ?_⟩
  cases (show d = v from r1)
  exact q1 ρ1 _ H1 (Stp.refl s1.hr) rfl
/-! ### .. as values -/
theorem se_one {op : BoolOp} (ha : SE T N sc k cm a ma) : SE T N sc k cm (.BoolOp op [a] pos) ma := fun X W g tk => pe_one (ha X W g tk)
theorem se_and (ha : SE T N sc k cm a ma) (hb : SE T N sc k cm (.BoolOp .And (b :: es) pos) mb) : SE T N sc k cm (.BoolOp .And (a :: b :: es) pos) (vAndT ma mb) := fun X W g tk => by
  refine PE.imp (pe_andT (ha X W g tk) (hb X W g tk)) fun σ H Q h => ?_
  obtain ⟨ρ, env, M, hev, hh, hd⟩ := h
  refine ⟨ρ, env, M, hev, hh, Den.mono (Den.bind hd) fun v H1 ⟨ρ1, M1, d, s1, r1, q1⟩ => ?_⟩
  cases e : truD d M1 with
  | none => simp only [e] at q1; exact q1.elim
  | some bb =>
    simp only [e] at q1
    refine ⟨bb, g.tru s1.hr r1 e, ?_⟩
    cases bb with
    | true => exact iteT ⟨ρ1, env, M1, hev.stp s1, s1.hr, q1⟩
    | false => exact iteF (q1 ρ1 v H1 (Stp.refl s1.hr) r1)
theorem se_or (ha : SE T N sc k cm a ma) (hb : SE T N sc k cm (.BoolOp .Or (b :: es) pos) mb) : SE T N sc k cm (.BoolOp .Or (a :: b :: es) pos) (vOrT ma mb) := fun X W g tk => by
  refine PE.imp (pe_orT (ha X W g tk) (hb X W g tk)) fun σ H Q h => ?_
  obtain ⟨ρ, env, M, hev, hh, hd⟩ := h
  refine ⟨ρ, env, M, hev, hh, Den.mono (Den.bind hd) fun v H1 ⟨ρ1, M1, d, s1, r1, q1⟩ => ?_⟩
  cases e : truD d M1 with
  | none => simp only [e] at q1; exact q1.elim
  | some bb =>
    simp only [e] at q1
    refine ⟨bb, g.tru s1.hr r1 e, ?_⟩
    cases bb with
    | true => exact iteT (q1 ρ1 v H1 (Stp.refl s1.hr) r1)
    | false => exact iteF ⟨ρ1, env, M1, hev.stp s1, s1.hr, q1⟩
theorem se_not (ha : SE T N sc k cm a ma) : SE T N sc k cm (.UnaryOp .Not a pos) (vBl (vNot (vTru ma))) := fun X W g tk => by
  refine PE.imp (pe_notT (ha X W g tk)) fun σ H Q h => ?_
  obtain ⟨ρ, env, M, hev, hh, hd⟩ := h
  unfold vBl vNot vTru at hd
  cases e0 : ma env M with
  | ok d M' =>
    rw [e0] at hd
    refine ⟨ρ, env, M, hev, hh, ?_⟩
    rw [e0]
    intro ρ1 v H1 s1 r1
    cases e : truD d M' with
    | none => simp only [e, Res.bind_ok, Res.bind_bad] at hd; exact hd.elim
    | some bb =>
      simp only [e, Res.bind_ok] at hd
      exact ⟨bb, g.tru s1.hr r1 e, hd ρ1 _ H1 s1 rp_bl⟩
  | exc c fs M' => rw [e0] at hd; refine ⟨ρ, env, M, hev, hh, ?_⟩; rw [e0]; exact hd
  | bad => rw [e0] at hd; exact hd.elim
theorem se_ifx (hc : ST T N sc k cm c ta) (ha : SE T N sc k cm a ma) (hb : SE T N sc k cm b mb) : SE T N sc k cm (.IfExp c a b pos) (vIf ta ma mb) := fun X W g tk => by
  refine PE.imp (pe_ifExp (hc X W g tk) (ha X W g tk) (hb X W g tk)) fun σ H Q h => ?_
  obtain ⟨ρ, env, M, hev, hh, hd⟩ := h
  refine ⟨ρ, env, M, hev, hh, Den.mono (Den.bind hd) fun v H1 ⟨ρ1, M1, d, s1, r1, q1⟩ => ?_⟩
  cases (show d = v from r1)
  cases v with
  | true => exact iteT ⟨ρ1, env, M1, hev.stp s1, s1.hr, q1⟩
  | false => exact iteF ⟨ρ1, env, M1, hev.stp s1, s1.hr, q1⟩
end
end Gm

set_option Elab.async false
set_option linter.all false
set_option maxRecDepth 100000
set_option autoImplicit false
/-! Gi3: operators by values: arithmetic, ==, <, in, is; subscripts, slices -/
namespace Gm
open PySem PySem.Spec PyProof.Rows L2

section
variable {T : Tab} {N : List Str} {sc : Scope} {k : Nat} {cm : Bool}
/-! ### how a rule is put to use -/
theorem opG_of {g : Value → Value → Sem Value} {f : Op2}
    (h : ∀ X, Good T N sc k cm X → ∀ ρ M H d1 d2 d M' x y, HeapR T ρ M H → Rp T ρ H d1 x → Rp T ρ H d2 y → f d1 d2 M = some (d, M') →
      ∀ Q : VK, (∀ ρ' v H', Stp T ρ H ρ' M' H' → Rp T ρ' H' d v → Q v H') → ∃ r : R2, OpR X g r ∧ r x y H Q) : OpG T N sc k cm g f := by
  intro X gd pins s σ H x y v u Q I rx ry ⟨ρ, M, d1, d2, d, M', hh, r1, r2, e, q⟩
  obtain ⟨r, hr, hq⟩ := h X gd ρ M H d1 d2 d M' x y hh r1 r2 e Q q
  exact hr pins s σ H x y v u Q I rx ry hq
theorem rp_int_inv {ρ : List Addr} {H : Hp} {i : Int} {v : V} (h : Rp T ρ H (.int i) v) : v = .int i := by rw [Rp] at h; exact h
theorem rp_bl_inv {ρ : List Addr} {H : Hp} {i : Bool} {v : V} (h : Rp T ρ H (.bl i) v) : v = .bl i := by rw [Rp] at h; exact h
theorem rp_non_inv {ρ : List Addr} {H : Hp} {v : V} (h : Rp T ρ H .non v) : v = .non := by rw [Rp] at h; exact h
theorem rp_str_inv {ρ : List Addr} {H : Hp} {s : List Nat} {v : V} (h : Rp T ρ H (.str s) v) : v = .str ⟨s.toArray⟩ ∧ ∀ c ∈ s, c < 1114112 := by rw [Rp] at h; exact h
theorem rp_tup_inv {ρ : List Addr} {H : Hp} {xs : List D} {v : V} (h : Rp T ρ H (.tup xs) v) : ∃ a vs, v = .ref a ∧ SqT T.K H a vs ∧ Rps T ρ H xs vs := by rw [Rp] at h; exact h
theorem rp_frz_inv {ρ : List Addr} {H : Hp} {xs : List D} {v : V} (h : Rp T ρ H (.frz xs) v) : ∃ a vs, v = .ref a ∧ FrzL T.K H a vs ∧ Rps T ρ H xs vs := by rw [Rp] at h; exact h

/-- two ints -/
theorem opG_int {g : Value → Value → Sem Value} {C : Int → Int → Prop} {F : Int → Int → D} {F' : Int → Int → V} {f : Op2} (ho : ∀ X, OpR X g (rI C F')) (hF : ∀ ρ H i j, Rp T ρ H (F i j) (F' i j))
    (hf : ∀ d1 d2 M z, f d1 d2 M = some z → ∃ i j, d1 = .int i ∧ d2 = .int j ∧ C i j ∧ z = (F i j, M)) : OpG T N sc k cm g f := by
  refine opG_of fun X gd ρ M H d1 d2 d M' x y hh r1 r2 e Q q => ?_
  obtain ⟨i, j, rfl, rfl, hc, hz⟩ := hf _ _ _ _ e
  cases hz
  exact ⟨_, ho X, i, j, rp_int_inv r1, rp_int_inv r2, hc, q ρ _ H (Stp.refl hh) (hF ρ H i j)⟩
theorem rI_of0 {X : Cx} {g : Value → Value → Sem Value} {F' : Int → Int → V} (h : OpR X g (rI0 F')) : OpR X g (rI (fun _ _ => True) F') := fun pins s σ H x y v u Q I rx ry ⟨i, j, e1, e2, _, q⟩ => h pins s σ H x y v u Q I rx ry ⟨i, j, e1, e2, q⟩

def opSub : Op2
  | .int i, .int j, M => some (.int (i - j), M)
  | _, _, _ => none
def opMul : Op2
  | .int i, .int j, M => if (-18446744073709551616 < i ∧ i < 18446744073709551616) ∨ (-18446744073709551616 < j ∧ j < 18446744073709551616) then some (.int (i * j), M) else none
  | _, _, _ => none
def opFdiv : Op2
  | .int i, .int j, M => if 0 < j ∧ j < 1073741824 then some (.int (i / j), M) else none
  | _, _, _ => none
def opMod : Op2
  | .int i, .int j, M => if 0 < j then some (.int (i % j), M) else none
  | _, _, _ => none
def opCmpI (p : Int → Int → Bool) : Op2
  | .int i, .int j, M => some (.bl (p i j), M)
  | _, _, _ => none
abbrev opLt : Op2 := opCmpI fun i j => decide (i < j)
abbrev opLe : Op2 := opCmpI fun i j => decide (i ≤ j)
abbrev opGt : Op2 := opCmpI fun i j => decide (j < i)
abbrev opGe : Op2 := opCmpI fun i j => decide (j ≤ i)
theorem og_sub : OpG T N sc k cm (binaryOp .Sub) opSub := opG_int (C := fun _ _ => True) (F := fun i j => .int (i - j)) (fun X => rI_of0 op_sub) (fun _ _ _ _ => rp_int) fun d1 d2 M z h => by
  unfold opSub at h; split at h <;> cases h
  exact ⟨_, _, rfl, rfl, trivial, rfl⟩
theorem og_mul : OpG T N sc k cm (binaryOp .Mult) opMul := opG_int (C := CMul) (F := fun i j => .int (i * j)) (fun X => op_mul) (fun _ _ _ _ => rp_int) fun d1 d2 M z h => by
  unfold opMul at h; split at h
  · split at h <;> cases h
    rename_i i j hc
    refine ⟨i, j, rfl, rfl, ?_, rfl⟩
    unfold CMul
    rcases hc with hc | hc
    · exact .inl ⟨by omega, by omega⟩
    · exact .inr ⟨by omega, by omega⟩
  · cases h
theorem og_fdiv : OpG T N sc k cm (binaryOp .FloorDiv) opFdiv := opG_int (C := CDiv) (F := fun i j => .int (i / j)) (fun X => op_fdiv) (fun _ _ _ _ => rp_int) fun d1 d2 M z h => by
  unfold opFdiv at h; split at h
  · split at h <;> cases h
    rename_i hc
    exact ⟨_, _, rfl, rfl, hc, rfl⟩
  · cases h
theorem og_mod : OpG T N sc k cm (binaryOp .Mod) opMod := opG_int (C := fun _ j => 0 < j) (F := fun i j => .int (i % j)) (fun X => op_mod) (fun _ _ _ _ => rp_int) fun d1 d2 M z h => by
  unfold opMod at h; split at h
  · split at h <;> cases h
    rename_i hc
    exact ⟨_, _, rfl, rfl, hc, rfl⟩
  · cases h
theorem og_cmpI {op : CmpOp} {p : Int → Int → Bool} (ho : ∀ X, OpR X (compareOp op) (rI0 fun i j => .bl (p i j))) : OpG T N sc k cm (compareOp op) (opCmpI p) := opG_int (C := fun _ _ => True) (F := fun i j => .bl (p i j)) (fun X => rI_of0 (ho X)) (fun _ _ _ _ => rp_bl) fun d1 d2 M z h => by
  unfold opCmpI at h; split at h <;> cases h
  exact ⟨_, _, rfl, rfl, trivial, rfl⟩
theorem og_lt : OpG T N sc k cm (compareOp .Lt) opLt := og_cmpI fun X => op_lt
theorem og_le : OpG T N sc k cm (compareOp .LtE) opLe := og_cmpI fun X => op_le
theorem og_gt : OpG T N sc k cm (compareOp .Gt) opGt := og_cmpI fun X => op_gt
theorem og_ge : OpG T N sc k cm (compareOp .GtE) opGe := og_cmpI fun X => op_ge

/-! ### + -/
def opAdd : Op2
  | .int i, .int j, M => some (.int (i + j), M)
  | .str a, .str b, M => if a.length + b.length ≤ 16777216 then some (.str (a ++ b), M) else none
  | .tup xs, .tup ys, M => if xs.length + ys.length ≤ 16777216 then some (.tup (xs ++ ys), M) else none
  | .loc l, .loc m, M => match M[l]?, M[m]? with
    | some (.lst xs), some (.lst ys) => if xs.length + ys.length ≤ 16777216 then some (.loc M.length, M ++ [.lst (xs ++ ys)]) else none
    | _, _ => none
  | _, _, _ => none
theorem str_app (a b : List Nat) : (⟨a.toArray⟩ : Str) ++ ⟨b.toArray⟩ = ⟨(a ++ b).toArray⟩ := by
  show (⟨a.toArray ++ b.toArray⟩ : Str) = _
  simp
theorem str_len (a : List Nat) : (⟨a.toArray⟩ : Str).length = a.length := by simp [Str.length]
theorem og_add : OpG T N sc k cm (binaryOp .Add) opAdd := by
  refine opG_of fun X gd ρ M H d1 d2 d M' x y hh r1 r2 e Q q => ?_
  unfold opAdd at e
  split at e
  · cases e
    exact ⟨_, op_add, _, _, rp_int_inv r1, rp_int_inv r2, q ρ _ H (Stp.refl hh) rp_int⟩
  · split at e <;> cases e
    rename_i a b hl
    obtain ⟨e1, o1⟩ := rp_str_inv r1
    obtain ⟨e2, o2⟩ := rp_str_inv r2
    refine ⟨_, op_add_str, _, _, e1, e2, by rw [str_len, str_len, sl_eq]; exact hl, q ρ _ H (Stp.refl hh) ?_⟩
    rw [str_app]
    exact rp_str fun c hc => (List.mem_append.mp hc).elim (o1 c) (o2 c)
  · split at e <;> cases e
    rename_i xs ys hl
    obtain ⟨a, vs, rfl, s1, t1⟩ := rp_tup_inv r1
    obtain ⟨b, us, rfl, s2, t2⟩ := rp_tup_inv r2
    rw [← gd.hK] at s1 s2
    refine ⟨_, op_catA, a, b, vs, us, rfl, rfl, s1, s2, by rw [t1.length, t2.length, sl_eq]; exact hl, fun z => ?_, fun z1 z2 => ?_, fun z1 z2 p np => ?_⟩
    · refine q ρ _ H (Stp.refl hh) ?_
      have : xs = [] := List.eq_nil_of_length_eq_zero (by rw [← t1.length, z]; rfl)
      subst this
      rw [gd.hK] at s2
      exact rp_tup s2 (by simpa using t2)
    · refine q ρ _ H (Stp.refl hh) ?_
      have : ys = [] := List.eq_nil_of_length_eq_zero (by rw [← t2.length, z2]; rfl)
      subst this
      rw [gd.hK] at s1
      exact rp_tup s1 (by simpa using t1)
    · have st := Stp.side (u := .tup (vs ++ us)) hh np
      exact q ρ _ _ st (rp_tup (SqT.of upd_same) ((t1.append t2).stp st))
  · split at e
    · rename_i l m M xs ys e1 e2
      split at e <;> cases e
      rename_i hl
      obtain ⟨a, rfl, ea, vs, h1, t1⟩ := hh.at_ r1 e1
      obtain ⟨b, rfl, eb, us, h2, t2⟩ := hh.at_ r2 e2
      refine ⟨_, op_cat, a, b, vs, us, rfl, rfl, h1, h2, by rw [t1.length, t2.length, sl_eq]; exact hl, fun p np => ?_⟩
      have st := Stp.alloc (u := .lst (vs ++ us)) (o := .lst (xs ++ ys)) hh np fun pf => ⟨_, upd_same, (t1.append t2).mono pf (Ext.new np)⟩
      exact q _ _ _ st (loc_new hh)
    · cases e
  · cases e

/-! ### == -/
mutual
def deq : D → D → Bool
  | .non, .non => true
  | .bl a, .bl b => a == b
  | .bl a, .int j => (if a then 1 else 0) == j
  | .int i, .bl b => i == (if b then 1 else 0)
  | .int i, .int j => i == j
  | .str x, .str y => x == y
  | .tup xs, .tup ys => deqs xs ys
  | .frz xs, .frz ys => deqs xs ys
  | _, _ => false
def deqs : List D → List D → Bool
  | [], [] => true
  | x :: xs, y :: ys => deq x y && deqs xs ys
  | _, _ => false
end
mutual
/-- no mutable things within -/
def pureD : D → Bool
  | .tup xs => pureDs xs
  | .frz xs => pureDs xs
  | .loc _ => false
  | .fn _ => false
  | _ => true
def pureDs : List D → Bool
  | [] => true
  | x :: xs => pureD x && pureDs xs
end
mutual
def dep : D → Nat
  | .tup xs => deps xs + 1
  | .frz xs => deps xs + 1
  | _ => 0
def deps : List D → Nat
  | [] => 0
  | x :: xs => max (dep x) (deps xs)
end
mutual
def toPy : D → PyData
  | .non => .none
  | .bl b => .bool b
  | .int i => .int i
  | .str s => .str ⟨s.toArray⟩
  | .tup xs => .tuple (toPys xs)
  | .frz xs => .list (toPys xs)
  | .loc _ => .none
  | .fn _ => .none
def toPys : List D → List PyData
  | [] => []
  | x :: xs => toPy x :: toPys xs
end
theorem str_beq (x y : List Nat) : ((⟨x.toArray⟩ : Str) == ⟨y.toArray⟩) = (x == y) := by
  by_cases h : x = y
  · subst h; simp
  · have : (⟨x.toArray⟩ : Str) ≠ ⟨y.toArray⟩ := fun e => h (by
      have e2 : x.toArray = y.toArray := congrArg Str.cps e
      simpa using congrArg Array.toList e2)
    rw [beq_eq_false_iff_ne.mpr this, beq_eq_false_iff_ne.mpr h]
mutual
theorem eqv_toPy : ∀ a b : D, pureD a = true → pureD b = true → PyData.eqv (toPy a) (toPy b) = deq a b
  | .non, b, _, hb => by cases b <;> first | (simp [toPy, deq, PyData.eqv]; done) | (simp [pureD] at hb)
  | .bl _, b, _, hb => by cases b <;> first | (simp [toPy, deq, PyData.eqv]; done) | (simp [pureD] at hb)
  | .int _, b, _, hb => by cases b <;> first | (simp [toPy, deq, PyData.eqv]; done) | (simp [pureD] at hb)
  | .str x, b, _, hb => by
    cases b with
    | str y => simp only [toPy, deq, PyData.eqv]; exact str_beq x y
    | loc _ => simp [pureD] at hb
    | fn _ => simp [pureD] at hb
    | _ => simp [toPy, deq, PyData.eqv]
  | .tup xs, b, ha, hb => by
    cases b with
    | tup ys => simp only [toPy, deq, PyData.eqv]; exact eqvs_toPy xs ys (by simpa [pureD] using ha) (by simpa [pureD] using hb)
    | loc _ => simp [pureD] at hb
    | fn _ => simp [pureD] at hb
    | _ => simp [toPy, deq, PyData.eqv]
  | .frz xs, b, ha, hb => by
    cases b with
    | frz ys => simp only [toPy, deq, PyData.eqv]; exact eqvs_toPy xs ys (by simpa [pureD] using ha) (by simpa [pureD] using hb)
    | loc _ => simp [pureD] at hb
    | fn _ => simp [pureD] at hb
    | _ => simp [toPy, deq, PyData.eqv]
  | .loc _, _, ha, _ => by simp [pureD] at ha
  | .fn _, _, ha, _ => by simp [pureD] at ha
theorem eqvs_toPy : ∀ a b : List D, pureDs a = true → pureDs b = true → PyData.eqvAll (toPys a) (toPys b) = deqs a b
  | [], [], _, _ => by simp [toPys, deqs, PyData.eqvAll]
  | [], _ :: _, _, _ => by simp [toPys, deqs, PyData.eqvAll]
  | _ :: _, [], _, _ => by simp [toPys, deqs, PyData.eqvAll]
  | x :: xs, y :: ys, ha, hb => by
    simp only [pureDs, Bool.and_eq_true] at ha hb
    simp only [toPys, deqs, PyData.eqvAll, eqv_toPy x y ha.1 hb.1, eqvs_toPy xs ys ha.2 hb.2]
end
mutual
theorem depth_toPy : ∀ a : D, (toPy a).depth = dep a
  | .non => by simp [toPy, dep, PyData.depth]
  | .bl _ => by simp [toPy, dep, PyData.depth]
  | .int _ => by simp [toPy, dep, PyData.depth]
  | .str _ => by simp [toPy, dep, PyData.depth]
  | .loc _ => by simp [toPy, dep, PyData.depth]
  | .fn _ => by simp [toPy, dep, PyData.depth]
  | .tup xs => by simp [toPy, dep, PyData.depth, depths_toPy xs]
  | .frz xs => by simp [toPy, dep, PyData.depth, depths_toPy xs]
theorem depths_toPy : ∀ a : List D, PyData.depthAll (toPys a) = deps a
  | [] => by simp [toPys, deps, PyData.depthAll]
  | x :: xs => by simp [toPys, deps, PyData.depthAll, depth_toPy x, depths_toPy xs]
end
mutual
theorem Rp.dp {ρ : List Addr} {H : Hp} : ∀ {d : D} {v : V}, Rp T ρ H d v → pureD d = true → Dp T.K H v (toPy d)
  | .non, _, h, _ => by rw [rp_non_inv h]; simp only [toPy]; exact .non
  | .bl _, _, h, _ => by rw [rp_bl_inv h]; simp only [toPy]; exact .bl _
  | .int _, _, h, _ => by rw [rp_int_inv h]; simp only [toPy]; exact .int _
  | .str _, _, h, _ => by rw [(rp_str_inv h).1]; simp only [toPy]; exact .str _
  | .tup xs, _, h, p => by
    obtain ⟨a, vs, rfl, s, t⟩ := rp_tup_inv h
    simp only [toPy]; exact .tup s (Rps.dp t (by simpa [pureD] using p))
  | .frz xs, _, h, p => by
    obtain ⟨a, vs, rfl, s, t⟩ := rp_frz_inv h
    simp only [toPy]; exact .lst s.sq (Rps.dp t (by simpa [pureD] using p))
  | .loc _, _, _, p => by simp [pureD] at p
  | .fn _, _, _, p => by simp [pureD] at p
theorem Rps.dp {ρ : List Addr} {H : Hp} : ∀ {ds : List D} {vs : List V}, Rps T ρ H ds vs → pureDs ds = true → DpAll T.K H vs (toPys ds)
  | [], _, h, _ => by rw [h.nil_inv]; simp only [toPys]; exact .nil
  | d :: ds, _, h, p => by
    obtain ⟨v, r, rfl, h1, h2⟩ := h.cons_inv
    simp only [pureDs, Bool.and_eq_true] at p
    simp only [toPys]; exact .cons (Rp.dp h1 p.1) (Rps.dp h2 p.2)
end
mutual
theorem Rp.lay {ρ : List Addr} {H : Hp} : ∀ {d : D} {v : V}, Rp T ρ H d v → (toPy d).canLay0 = true
  | .non, _, _ => by simp [toPy, PyData.canLay0]
  | .bl _, _, _ => by simp [toPy, PyData.canLay0]
  | .int _, _, _ => by simp [toPy, PyData.canLay0]
  | .str s, _, h => by
    have := (rp_str_inv h).2
    simp only [toPy, PyData.canLay0, PyData.strOk]
    simpa using this
  | .tup xs, _, h => by
    obtain ⟨a, vs, rfl, s, t⟩ := rp_tup_inv h
    simp only [toPy, PyData.canLay0]; exact Rps.lay t
  | .frz xs, _, h => by
    obtain ⟨a, vs, rfl, s, t⟩ := rp_frz_inv h
    simp only [toPy, PyData.canLay0]; exact Rps.lay t
  | .loc _, _, _ => by simp [toPy, PyData.canLay0]
  | .fn _, _, _ => by simp [toPy, PyData.canLay0]
theorem Rps.lay {ρ : List Addr} {H : Hp} : ∀ {ds : List D} {vs : List V}, Rps T ρ H ds vs → PyData.canLayAll0 (toPys ds) = true
  | [], _, _ => by simp [toPys, PyData.canLayAll0]
  | d :: ds, _, h => by
    obtain ⟨v, r, rfl, h1, h2⟩ := h.cons_inv
    simp only [toPys, PyData.canLayAll0, Bool.and_eq_true]; exact ⟨Rp.lay h1, Rps.lay h2⟩
end
/-- data that == may be asked of: lists of the heap too, where they hold plain data -/
def seeD (M : Hh) : D → Option D
  | .loc l => match M[l]? with
    | some (.lst xs) => if pureDs xs then some (.frz xs) else none
    | _ => none
  | d => if pureD d then some d else none
theorem see_reads {X : Cx} (gd : Good T N sc k cm X) {pins : List (Addr × Obj)} {s : Shared} {σ : L2.St} {H : Hp} {ρ : List Addr} {M : Hh} {d e : D} {v : V} {u : Value} (I : Inv X pins σ H s) (hh : HeapR T ρ M H) (r : Rp T ρ H d v) (ru : RelV v u) (h : seeD M d = some e) :
    (∃ as, Reads s.heap u (toPy e) as) ∧ (toPy e).canLay0 = true ∧ pureD e = true := by
  cases d with
  | loc l =>
    simp only [seeD] at h
    split at h
    · rename_i xs em
      split at h <;> cases h
      rename_i hp
      obtain ⟨a, rfl, ea, vs, h1, h2⟩ := hh.at_ r em
      have q : Dp X.K H (.ref a) (toPy (.frz xs)) := by
        simp only [toPy]
        rw [gd.hK]
        exact .lst (SqL.of h1) (Rps.dp h2 hp)
      refine ⟨Dp.reads I _ _ _ q ru, ?_, by simpa [pureD] using hp⟩
      simp only [toPy, PyData.canLay0]; exact Rps.lay h2
    · cases h
  | fn g => simp [seeD, pureD] at h
  | _ =>
    simp only [seeD] at h
    split at h <;> cases h
    rename_i hp
    refine ⟨Dp.reads I _ _ _ (by rw [gd.hK]; exact Rp.dp r hp) ru, Rp.lay r, hp⟩
def opEq : Op2 := fun a b M => match seeD M a, seeD M b with
  | some x, some y => if min (dep x) (dep y) ≤ 150 then some (.bl (deq x y), M) else none
  | _, _ => none
def opNe : Op2 := fun a b M => match seeD M a, seeD M b with
  | some x, some y => if min (dep x) (dep y) ≤ 150 then some (.bl (!deq x y), M) else none
  | _, _ => none
theorem og_eq : OpG T N sc k cm (compareOp .Eq) opEq := by
  intro X gd pins s σ H x y v u Q I rx ry ⟨ρ, M, d1, d2, d, M', hh, r1, r2, e, q⟩
  unfold opEq at e
  split at e
  · rename_i e1 e2 s1 s2
    split at e <;> cases e
    rename_i hl
    obtain ⟨⟨as, q1⟩, l1, p1⟩ := see_reads gd I hh r1 rx s1
    obtain ⟨⟨bs, q2⟩, l2, p2⟩ := see_reads gd I hh r2 ry s2
    refine SeqAt.compareEq_reads q1 q2 l1 l2 (by rw [depth_toPy, depth_toPy]; have := gd.un; omega) ?_
    rw [eqv_toPy _ _ p1 p2]
    exact ⟨.bl _, H, I, rfl, q ρ _ H (Stp.refl hh) rp_bl⟩
  · cases e
theorem og_ne : OpG T N sc k cm (compareOp .NotEq) opNe := by
  intro X gd pins s σ H x y v u Q I rx ry ⟨ρ, M, d1, d2, d, M', hh, r1, r2, e, q⟩
  unfold opNe at e
  split at e
  · rename_i e1 e2 s1 s2
    split at e <;> cases e
    rename_i hl
    obtain ⟨⟨as, q1⟩, l1, p1⟩ := see_reads gd I hh r1 rx s1
    obtain ⟨⟨bs, q2⟩, l2, p2⟩ := see_reads gd I hh r2 ry s2
    refine SeqAt.compareNe_reads q1 q2 l1 l2 (by rw [depth_toPy, depth_toPy]; have := gd.un; omega) ?_
    rw [eqv_toPy _ _ p1 p2]
    exact ⟨.bl _, H, I, rfl, q ρ _ H (Stp.refl hh) rp_bl⟩
  · cases e

/-! ### in -/
def memD (d : D) (xs : List D) : Bool := xs.any fun z => deq z d
def inD (a b : D) (M : Hh) : Option Bool := match b with
  | .str z => match a with
    | .str [c] => some (decide (c ∈ z))
    | _ => none
  | _ => match seeD M a, seeD M b with
    | some x, some (.tup ys) => if min (deps ys) (dep x) ≤ 150 then some (memD x ys) else none
    | some x, some (.frz ys) => if min (deps ys) (dep x) ≤ 150 then some (memD x ys) else none
    | _, _ => none
def opIn : Op2 := fun a b M => (inD a b M).map fun c => (.bl c, M)
def opNin : Op2 := fun a b M => (inD a b M).map fun c => (.bl (!c), M)
theorem any_toPy {x : D} (hx : pureD x = true) : ∀ {ys : List D}, pureDs ys = true → (toPys ys).any (fun z => PyData.eqv z (toPy x)) = memD x ys
  | [], _ => by simp [toPys, memD]
  | y :: ys, h => by
    simp only [pureDs, Bool.and_eq_true] at h
    have := any_toPy hx h.2
    unfold memD at this ⊢
    simp only [toPys, List.any_cons, this, eqv_toPy y x h.1 hx]
theorem in_ok {X : Cx} (gd : Good T N sc k cm X) {pins : List (Addr × Obj)} {s : Shared} {σ : L2.St} {H : Hp} {ρ : List Addr} {M : Hh} {d e : D} {v v' : V} {u u' : Value} {bb : Bool} {Q Q' : Value → Shared → Prop} {E : Value → Shared → Prop} (I : Inv X pins σ H s) (hh : HeapR T ρ M H) (r : Rp T ρ H d v) (ru : RelV v u)
    (r' : Rp T ρ H e v') (ru' : RelV v' u') (h : inD d e M = some bb) (hq : Q (.bool bb) s) (hq' : Q' (.bool (!bb)) s) : wpAny (model X.prog X.w) X.A (compareOp .In u u') Q E s ∧ wpAny (model X.prog X.w) X.A (compareOp .NotIn u u') Q' E s := by
  have un := gd.un
  have two : ∀ {x : D} {ys : List D}, seeD M d = some x → (seeD M e = some (.tup ys) ∨ seeD M e = some (.frz ys)) → min (deps ys) (dep x) ≤ 150 → bb = memD x ys → wpAny (model X.prog X.w) X.A (compareOp .In u u') Q E s ∧ wpAny (model X.prog X.w) X.A (compareOp .NotIn u u') Q' E s := by
    intro x ys h1 h2 hl hb
    obtain ⟨⟨as, q1⟩, l1, p1⟩ := see_reads gd I hh r ru h1
    rcases h2 with h2 | h2
    · obtain ⟨⟨bs, q2⟩, l2, p2⟩ := see_reads gd I hh r' ru' h2
      simp only [toPy] at q2 l2
      have ea := any_toPy p1 (ys := ys) (by simpa [pureD] using p2)
      have hu : X.A.units + 1 + min (PyData.depthAll (toPys ys)) (toPy x).depth < cLine := by rw [depths_toPy, depth_toPy]; omega
      exact ⟨SeqAt.in_tuple_reads q2 q1 l2 l1 hu (by rw [ea, ← hb]; exact hq), SeqAt.notIn_tuple_reads q2 q1 l2 l1 hu (by rw [ea, ← hb]; exact hq')⟩
    · obtain ⟨⟨bs, q2⟩, l2, p2⟩ := see_reads gd I hh r' ru' h2
      simp only [toPy] at q2 l2
      have ea := any_toPy p1 (ys := ys) (by simpa [pureD] using p2)
      have hu : X.A.units + 1 + min (PyData.depthAll (toPys ys)) (toPy x).depth < cLine := by rw [depths_toPy, depth_toPy]; omega
      exact ⟨SeqAt.in_list_reads q2 q1 l2 l1 hu (by rw [ea, ← hb]; exact hq), SeqAt.notIn_list_reads q2 q1 l2 l1 hu (by rw [ea, ← hb]; exact hq')⟩
  unfold inD at h
  split at h
  · rename_i z
    split at h
    · rename_i c
      cases h
      obtain ⟨rfl, _⟩ := rp_str_inv r
      obtain ⟨rfl, _⟩ := rp_str_inv r'
      obtain ⟨t, rfl⟩ := ru
      obtain ⟨t', rfl⟩ := ru'
      have e1 : (!(Builtin.Str.occurrences (⟨z.toArray⟩ : Str) (⟨#[c]⟩ : Str) 0 (⟨z.toArray⟩ : Str).length 1).isEmpty) = decide (c ∈ z) := by
        have := PySem.StrLaws.found_one (⟨z.toArray⟩ : Str) c
        simpa using this
      exact ⟨PyProof.Rows.in_str (by rw [e1]; exact hq), PyProof.Rows.notIn_str (by rw [e1]; exact hq')⟩
    · cases h
  · split at h
    · rename_i x ys h1 h2
      split at h <;> cases h
      rename_i hl
      exact two h1 (.inl h2) hl rfl
    · rename_i x ys h1 h2
      split at h <;> cases h
      rename_i hl
      exact two h1 (.inr h2) hl rfl
    · cases h
theorem og_in : OpG T N sc k cm (compareOp .In) opIn := by
  intro X gd pins s σ H x y v u Q I rx ry ⟨ρ, M, d1, d2, d, M', hh, r1, r2, e, q⟩
  obtain ⟨bb, e1, e2⟩ := Option.map_eq_some_iff.mp e
  cases e2
  exact (in_ok (Q' := fun _ _ => True) gd I hh r1 rx r2 ry e1 ⟨.bl bb, H, I, rfl, q ρ _ H (Stp.refl hh) rp_bl⟩ trivial).1
theorem og_nin : OpG T N sc k cm (compareOp .NotIn) opNin := by
  intro X gd pins s σ H x y v u Q I rx ry ⟨ρ, M, d1, d2, d, M', hh, r1, r2, e, q⟩
  obtain ⟨bb, e1, e2⟩ := Option.map_eq_some_iff.mp e
  cases e2
  exact (in_ok (Q := fun _ _ => True) gd I hh r1 rx r2 ry e1 trivial ⟨.bl (!bb), H, I, rfl, q ρ _ H (Stp.refl hh) rp_bl⟩).2

/-! ### is -/
/-- x is y for y one of None, True, False -/
def isD : D → D → Option Bool
  | a, .non => some (match a with | .non => true | _ => false)
  | a, .bl b => some (match a with | .bl c => c == b | _ => false)
  | _, _ => none
def opIs : Op2 := fun a b M => (isD a b).map fun c => (.bl c, M)
def opIsn : Op2 := fun a b M => (isD a b).map fun c => (.bl (!c), M)
theorem is_plain {ρ : List Addr} {H : Hp} {d e : D} {v v' : V} {u u' : Value} {bb : Bool} (r : Rp T ρ H d v) (ru : RelV v u) (r' : Rp T ρ H e v') (ru' : RelV v' u') (h : isD d e = some bb) : plainIs u u' = true ∧ (u == u') = bb := by
  have key : ∀ {w : Value}, (w = .none ∨ ∃ b, w = .bool b) → u' = w → (match d with | .non => u = .none | .bl b => u = .bool b | .int i => ∃ t, u = .int i t | .str s => ∃ t, u = .str ⟨s.toArray⟩ t | _ => ∃ a, u = .ref a) := by
    intro w _ _
    cases d with
    | non => rw [rp_non_inv r] at ru; exact ru
    | bl b => rw [rp_bl_inv r] at ru; exact ru
    | int i => rw [rp_int_inv r] at ru; exact ru
    | str s => rw [(rp_str_inv r).1] at ru; exact ru
    | tup xs => obtain ⟨a, vs, rfl, _, _⟩ := rp_tup_inv r; exact ⟨a, ru⟩
    | frz xs => obtain ⟨a, vs, rfl, _, _⟩ := rp_frz_inv r; exact ⟨a, ru⟩
    | loc l => rw [Rp] at r; obtain ⟨a, rfl, _⟩ := r; exact ⟨a, ru⟩
    | fn g => rw [Rp] at r; subst r; exact ⟨_, ru⟩
  cases e with
  | non =>
    rw [rp_non_inv r'] at ru'
    obtain rfl : u' = Value.none := ru'
    have := key (.inl rfl) rfl
    cases d <;> simp only [isD] at h <;> cases h <;> first | (obtain rfl := this; exact ⟨rfl, rfl⟩) | (obtain ⟨_, rfl⟩ := this; exact ⟨rfl, rfl⟩)
  | bl b =>
    rw [rp_bl_inv r'] at ru'
    obtain rfl : u' = Value.bool b := ru'
    have := key (.inr ⟨b, rfl⟩) rfl
    cases d <;> simp only [isD] at h <;> cases h <;> first | (obtain rfl := this; refine ⟨rfl, ?_⟩; first | rfl | (rename_i c; cases c <;> cases b <;> rfl)) | (obtain ⟨_, rfl⟩ := this; exact ⟨rfl, rfl⟩)
  | _ => simp [isD] at h
theorem og_is : OpG T N sc k cm (compareOp .Is) opIs := by
  intro X gd pins s σ H x y v u Q I rx ry ⟨ρ, M, d1, d2, d, M', hh, r1, r2, e, q⟩
  obtain ⟨bb, e1, e2⟩ := Option.map_eq_some_iff.mp e
  cases e2
  obtain ⟨p1, p2⟩ := is_plain r1 rx r2 ry e1
  exact wpAny_is_plain p1 (by rw [p2]; exact ⟨.bl bb, H, I, rfl, q ρ _ H (Stp.refl hh) rp_bl⟩)
theorem og_isn : OpG T N sc k cm (compareOp .IsNot) opIsn := by
  intro X gd pins s σ H x y v u Q I rx ry ⟨ρ, M, d1, d2, d, M', hh, r1, r2, e, q⟩
  obtain ⟨bb, e1, e2⟩ := Option.map_eq_some_iff.mp e
  cases e2
  obtain ⟨p1, p2⟩ := is_plain r1 rx r2 ry e1
  exact wpAny_isNot_plain p1 (by rw [p2]; exact ⟨.bl (!bb), H, I, rfl, q ρ _ H (Stp.refl hh) rp_bl⟩)

/-! ### a[i] -/
def IxG (T : Tab) (N : List Str) (sc : Scope) (k : Nat) (cm : Bool) (f : Op2) : Prop := ∀ X, Good T N sc k cm X → IxR X (rOp T f)
def opIx : Op2 := fun a b M => match b with
  | .int i => match a with
    | .tup xs => (atI xs i).map fun d => (d, M)
    | .frz xs => (atI xs i).map fun d => (d, M)
    | .str s => if s.length ≤ 16777216 then (atI s i).map fun c => (.str [c], M) else none
    | .loc l => match M[l]? with
      | some (.lst xs) => (atI xs i).map fun d => (d, M)
      | _ => none
    | _ => none
  | _ => none
theorem atI_rps {ρ : List Addr} {H : Hp} {xs : List D} {vs : List V} {i : Int} {d : D} (t : Rps T ρ H xs vs) (h : atI xs i = some d) : ∃ v, atI vs i = some v ∧ Rp T ρ H d v := by
  unfold atI at h ⊢
  rw [t.length]
  cases e : ixN xs.length i with
  | none => rw [e] at h; cases h
  | some j =>
    rw [e] at h
    exact t.get h
theorem og_ix : IxG T N sc k cm opIx := by
  intro X gd ea eb pins s σ H x y v u Q I rx ry ⟨ρ, M, d1, d2, d, M', hh, r1, r2, e, q⟩ hsb
  unfold opIx at e
  split at e
  · rename_i i
    have hy := rp_int_inv r2
    split at e
    · rename_i xs
      obtain ⟨dd, e1, e2⟩ := Option.map_eq_some_iff.mp e
      cases e2
      obtain ⟨a, vs, rfl, s1, t1⟩ := rp_tup_inv r1
      obtain ⟨w, h1, h2⟩ := atI_rps t1 e1
      rw [← gd.hK] at s1
      exact ix_tup ea eb pins s σ H _ y v u Q I rx ry ⟨a, vs, i, w, rfl, hy, s1, h1, q ρ _ H (Stp.refl hh) h2⟩ hsb
    · rename_i xs
      obtain ⟨dd, e1, e2⟩ := Option.map_eq_some_iff.mp e
      cases e2
      obtain ⟨a, vs, rfl, s1, t1⟩ := rp_frz_inv r1
      obtain ⟨w, h1, h2⟩ := atI_rps t1 e1
      rw [← gd.hK] at s1
      exact ix_list ea eb pins s σ H _ y v u Q I rx ry ⟨a, vs, i, w, rfl, hy, s1.sq, h1, q ρ _ H (Stp.refl hh) h2⟩ hsb
    · rename_i z
      split at e
      · rename_i hl
        obtain ⟨c, e1, e2⟩ := Option.map_eq_some_iff.mp e
        cases e2
        obtain ⟨rfl, o1⟩ := rp_str_inv r1
        have hc : c ∈ z := by
          unfold atI at e1
          cases e3 : ixN z.length i with
          | none => rw [e3] at e1; cases e1
          | some j => rw [e3] at e1; exact List.mem_of_getElem? e1
        refine ix_str ea eb pins s σ H _ y v u Q I rx ry ⟨_, i, c, rfl, hy, by rw [str_len, sl_eq]; exact hl, by simpa using e1, q ρ _ H (Stp.refl hh) ?_⟩ hsb
        exact rp_str fun c' h' => by rw [List.mem_singleton.mp h']; exact o1 c hc
      · cases e
    · split at e
      · rename_i l xs em
        obtain ⟨dd, e1, e2⟩ := Option.map_eq_some_iff.mp e
        cases e2
        obtain ⟨a, rfl, eea, vs, h1, t1⟩ := hh.at_ r1 em
        obtain ⟨w, h2, h3⟩ := atI_rps t1 e1
        exact ix_list ea eb pins s σ H _ y v u Q I rx ry ⟨a, vs, i, w, rfl, hy, SqL.of h1, h2, q ρ _ H (Stp.refl hh) h3⟩ hsb
      · cases e
    · cases e
  · cases e
theorem se_ix {a b : Expr} {ma mb : SMo D} {pos : Pos} {f : Op2} (ho : IxG T N sc k cm f) (ha : SE T N sc k cm a ma) (hb : SE T N sc k cm b mb) (hs : PlainIx b := by intro _ _; rfl) : SE T N sc k cm (.Subscript a b pos) (vOp f ma mb) := fun X W g tk =>
  PE.imp (pe_ix (ho X g) (ha X W g tk) (hb X W g tk) hs) fun σ H Q h => op_use h (fun _ _ _ h => h) fun _ _ _ h => h

/-! ### a[i:j] -/
def sIx' (n d : Nat) (o : Option Int) : Nat := HT.sIx n d o
def cutD {α : Type} (xs : List α) (lo hi : Option Int) : List α := (xs.drop (HT.sIx xs.length 0 lo)).take (HT.sIx xs.length xs.length hi - HT.sIx xs.length 0 lo)
/-- a part of a slice: none where it is left out -/
abbrev SMp := SMo (Option Int)
def vNo : SMp := fun _ M => .ok none M
def vPart (a : SMo D) : SMp := fun env M => (a env M).bind fun x M1 => match x with
  | .int i => .ok (some i) M1
  | _ => .bad
def RI : RelX (Option Int) (Option Int) := fun _ _ _ a b => a = b
def SP' (T : Tab) (N : List Str) (sc : Scope) (k : Nat) (cm : Bool) (e : Option Expr) (m : SMp) : Prop := ∀ X W, Good T N sc k cm X → Takes X W → PO X e (tD T RI W m)
theorem PO.imp {X : Cx} {e : Option Expr} {t t' : TO} (h : PO X e t) (i : ∀ σ H Q, t' σ H Q → t σ H Q) : PO X e t' := ⟨fun pins s σ H Q I q => h.run pins s σ H Q I (i σ H Q q)⟩
theorem sp_no : SP' T N sc k cm none vNo := fun X W g tk => by
  refine PO.imp po_none fun σ H Q h => ?_
  obtain ⟨ρ, env, M, hev, hh, hd⟩ := h
  exact hd ρ none H (Stp.refl hh) rfl
theorem sp_some {a : Expr} {ma : SMo D} (ha : SE T N sc k cm a ma) : SP' T N sc k cm (some a) (vPart ma) := fun X W g tk => by
  refine PO.imp (po_some (ha X W g tk)) fun σ H Q h => ?_
  obtain ⟨ρ, env, M, hev, hh, hd⟩ := h
  refine ⟨ρ, env, M, hev, hh, Den.mono (Den.bind hd) fun v H1 ⟨ρ1, M1, d, s1, r1, q1⟩ => ?_⟩
  cases d with
  | int i => exact ⟨i, rp_int_inv r1, q1 ρ1 (some i) H1 (Stp.refl s1.hr) rfl⟩
  | _ => exact q1.elim
def slD (a : D) (lo hi : Option Int) (M : Hh) : Option (D × Hh) := match a with
  | .tup xs => some (.tup (cutD xs lo hi), M)
  | .str s => if s.length ≤ 16777216 then some (.str (cutD s lo hi), M) else none
  | .frz xs => some (.loc M.length, M ++ [.lst (cutD xs lo hi)])
  | .loc l => match M[l]? with
    | some (.lst xs) => some (.loc M.length, M ++ [.lst (cutD xs lo hi)])
    | _ => none
  | _ => none
def vSl (a : SMo D) (lo hi : SMp) : SMo D := fun env M => (a env M).bind fun x M1 => (lo env M1).bind fun l M2 => (hi env M2).bind fun h M3 => Res.ofO (slD x l h M3)
def rSl (T : Tab) : V → Option Int → Option Int → Hp → VK → Prop := fun x lo hi H Q => ∃ ρ M d1 d M', HeapR T ρ M H ∧ Rp T ρ H d1 x ∧ slD d1 lo hi M = some (d, M') ∧ ∀ ρ' v H', Stp T ρ H ρ' M' H' → Rp T ρ' H' d v → Q v H'
theorem cut_rps {ρ : List Addr} {H : Hp} {xs : List D} {vs : List V} (lo hi : Option Int) (t : Rps T ρ H xs vs) : Rps T ρ H (cutD xs lo hi) (cutV vs lo hi) := by
  unfold cutD cutV
  rw [t.length]
  exact (t.drop _).take _
theorem cut_mem {α : Type} {xs : List α} {lo hi : Option Int} {x : α} (h : x ∈ cutD xs lo hi) : x ∈ xs := List.mem_of_mem_drop (List.mem_of_mem_take h)
theorem sl_ok {X : Cx} (gd : Good T N sc k cm X) : SlR X (rSl T) := by
  intro pins s σ H x v vl vu lo hi sl Q I rx hs pl pu ⟨ρ, M, d1, d, M', hh, r1, e, q⟩
  unfold slD at e
  split at e
  · cases e
    rename_i xs
    obtain ⟨a, vs, rfl, s1, t1⟩ := rp_tup_inv r1
    have s2 := s1
    rw [← gd.hK] at s1
    refine sl_tupA pins s σ H _ v vl vu lo hi sl Q I rx hs pl pu ⟨a, vs, rfl, s1, fun hw => q ρ _ H (Stp.refl hh) ?_, fun hw p np => ?_⟩
    · have : cutD xs lo hi = xs := by
        unfold cutD
        rw [← t1.length, hw.1, hw.2, List.drop_zero, Nat.sub_zero, t1.length, List.take_length]
      rw [this]
      exact rp_tup s2 t1
    · have st := Stp.side (u := .tup (cutV vs lo hi)) hh np
      exact q ρ _ _ st (rp_tup (SqT.of upd_same) ((cut_rps lo hi t1).stp st))
  · split at e <;> cases e
    rename_i z hl
    obtain ⟨rfl, o1⟩ := rp_str_inv r1
    refine sl_str pins s σ H _ v vl vu lo hi sl Q I rx hs pl pu ⟨_, rfl, by rw [str_len, sl_eq]; exact hl, q ρ _ H (Stp.refl hh) ?_⟩
    have : cutS (⟨z.toArray⟩ : Str) lo hi = ⟨(cutD z lo hi).toArray⟩ := by
      unfold cutS cutD
      simp [Str.length]
    rw [this]
    exact rp_str fun c hc => o1 c (cut_mem hc)
  · cases e
    rename_i xs
    obtain ⟨a, vs, rfl, s1, t1⟩ := rp_frz_inv r1
    rw [← gd.hK] at s1
    refine sl_list pins s σ H _ v vl vu lo hi sl Q I rx hs pl pu ⟨a, vs, rfl, s1.sq, fun p np => ?_⟩
    have st := Stp.alloc (u := .lst (cutV vs lo hi)) (o := .lst (cutD xs lo hi)) hh np fun pf => ⟨_, upd_same, (cut_rps lo hi t1).mono pf (Ext.new np)⟩
    exact q _ _ _ st (loc_new hh)
  · split at e
    · rename_i l xs em
      cases e
      obtain ⟨a, rfl, ea, vs, h1, t1⟩ := hh.at_ r1 em
      refine sl_list pins s σ H _ v vl vu lo hi sl Q I rx hs pl pu ⟨a, vs, rfl, SqL.of h1, fun p np => ?_⟩
      have st := Stp.alloc (u := .lst (cutV vs lo hi)) (o := .lst (cutD xs lo hi)) hh np fun pf => ⟨_, upd_same, (cut_rps lo hi t1).mono pf (Ext.new np)⟩
      exact q _ _ _ st (loc_new hh)
    · cases e
  · cases e
theorem se_slice {a : Expr} {lo hi : Option Expr} {ma : SMo D} {ml mh : SMp} {p2 pos : Pos} (ha : SE T N sc k cm a ma) (hl : SP' T N sc k cm lo ml) (hu : SP' T N sc k cm hi mh) : SE T N sc k cm (.Subscript a (.Slice lo hi none p2) pos) (vSl ma ml mh) := fun X W g tk => by
  refine PE.imp (pe_slice (sl_ok g) (ha X W g tk) (hl X W g tk) (hu X W g tk)) fun σ H Q h => ?_
  obtain ⟨ρ, env, M, hev, hh, hd⟩ := h
  refine ⟨ρ, env, M, hev, hh, Den.mono (Den.bind hd) fun v H1 ⟨ρ1, M1, d, s1, r1, q1⟩ => ?_⟩
  refine ⟨ρ1, env, M1, hev.stp s1, s1.hr, Den.mono (Den.bind q1) fun l H2 ⟨ρ2, M2, l', s2, r2, q2⟩ => ?_⟩
  cases (show l' = l from r2)
  refine ⟨ρ2, env, M2, (hev.stp s1).stp s2, s2.hr, Den.mono (Den.bind q2) fun u H3 ⟨ρ3, M3, u', s3, r3, q3⟩ => ?_⟩
  cases (show u' = u from r3)
  obtain ⟨d', M', e, q4⟩ := den_ofO q3
  exact ⟨ρ3, M3, d, d', M', s3.hr, (r1.stp s2).stp s3, e, q4⟩
end
end Gm

set_option Elab.async false
set_option linter.all false
set_option maxRecDepth 100000
set_option autoImplicit false
/-! Gi4: statements: blocks, stores, if, while, for, return -/
namespace Gm
open PySem PySem.Spec PyProof.Rows L2

structure GoodS (T : Tab) (N : List Str) (sc : Scope) (k : Nat) (cm : Bool) (X : Cx) : Prop extends Good T N sc k cm X where
  stk : X.stack = X.env :: X.outer
  frm : X.env.frame = some X.env.locals
  pas : PassesOwn (model X.prog X.w) X.A X.env X.xe
  fnt : ∀ x, X.fn x = true

/-- what a statement does -/
inductive RS where
  | nx (env : Ev) (M : Hh)
  | ret (d : D) (M : Hh)
  | brk (env : Ev) (M : Hh)
  | cnt (env : Ev) (M : Hh)
  | exc (c : Nat) (fs : List (Nat × D)) (env : Ev) (M : Hh)
  | bad
abbrev SMs := Ev → Hh → RS
def RS.bind (r : RS) (f : SMs) : RS := match r with
  | .nx env M => f env M
  | .ret d M => .ret d M
  | .brk env M => .brk env M
  | .cnt env M => .cnt env M
  | .exc c fs env M => .exc c fs env M
  | .bad => .bad
@[simp] theorem RS.bind_nx (env : Ev) (M : Hh) (f : SMs) : (RS.nx env M).bind f = f env M := rfl
@[simp] theorem RS.bind_ret (d : D) (M : Hh) (f : SMs) : (RS.ret d M).bind f = .ret d M := rfl
@[simp] theorem RS.bind_brk (env : Ev) (M : Hh) (f : SMs) : (RS.brk env M).bind f = .brk env M := rfl
@[simp] theorem RS.bind_cnt (env : Ev) (M : Hh) (f : SMs) : (RS.cnt env M).bind f = .cnt env M := rfl
@[simp] theorem RS.bind_exc (c : Nat) (fs : List (Nat × D)) (env : Ev) (M : Hh) (f : SMs) : (RS.exc c fs env M).bind f = .exc c fs env M := rfl
@[simp] theorem RS.bind_bad (f : SMs) : RS.bad.bind f = .bad := rfl
/-- from an expression on -/
def Res.st {α : Type} (r : Res α) (env : Ev) (f : α → Hh → RS) : RS := match r with
  | .ok a M => f a M
  | .exc c fs M => .exc c fs env M
  | .bad => .bad
@[simp] theorem Res.st_ok {α : Type} (a : α) (M : Hh) (env : Ev) (f : α → Hh → RS) : (Res.ok a M).st env f = f a M := rfl
@[simp] theorem Res.st_exc {α : Type} (c : Nat) (fs : List (Nat × D)) (M : Hh) (env : Ev) (f : α → Hh → RS) : (Res.exc c fs M : Res α).st env f = .exc c fs env M := rfl
@[simp] theorem Res.st_bad {α : Type} (env : Ev) (f : α → Hh → RS) : (Res.bad : Res α).st env f = .bad := rfl

def DenS (T : Tab) (W : WX) (ρ : List Addr) (H : Hp) (r : RS) (D : Ends) : Prop := match r with
  | .nx env M => ∀ ρ' σ' H', Stp T ρ H ρ' M H' → EnvR T ρ' H' env σ' → D.nx σ' H'
  | .ret d M => ∀ ρ' v H', Stp T ρ H ρ' M H' → Rp T ρ' H' d v → D.rt v H'
  | .brk env M => ∀ ρ' σ' H', Stp T ρ H ρ' M H' → EnvR T ρ' H' env σ' → D.bk σ' H'
  | .cnt env M => ∀ ρ' σ' H', Stp T ρ H ρ' M H' → EnvR T ρ' H' env σ' → D.ct σ' H'
  | .exc c fs env M => ∀ ρ' σ' dd vfs H', Stp T ρ H ρ' M H' → EnvR T ρ' H' env σ' → H' dd = some (.xd vfs) → Flds T ρ' H' fs vfs → W (.ref (T.adr c)) (some dd) σ' H'
  | .bad => False
def tS (T : Tab) (W : WX) (m : SMs) : TS := fun D σ H => ∃ ρ env M, EnvR T ρ H env σ ∧ HeapR T ρ M H ∧ DenS T W ρ H (m env M) D
section
variable (T : Tab) (N : List Str) (sc : Scope) (k : Nat) (cm : Bool)
def SS (st : Stmt) (m : SMs) : Prop := ∀ X W, GoodS T N sc k cm X → Takes X W → PS X st (tS T W m)
def SB (st : List Stmt) (m : SMs) : Prop := ∀ X W, GoodS T N sc k cm X → Takes X W → PSs X st (tS T W m)
end
section
variable {T : Tab} {W : WX} {ρ ρ1 : List Addr} {H H1 : Hp} {M1 : Hh} {D D' : Ends} {r : RS} {env : Ev} {σ : L2.St}
theorem DenS.lift (s : Stp T ρ H ρ1 M1 H1) (h : DenS T W ρ H r D) : DenS T W ρ1 H1 r D := by
  cases r with
  | nx env M => exact fun ρ' σ' H' s' q => h ρ' σ' H' (s.trans s') q
  | ret d M => exact fun ρ' σ' H' s' q => h ρ' σ' H' (s.trans s') q
  | brk env M => exact fun ρ' σ' H' s' q => h ρ' σ' H' (s.trans s') q
  | cnt env M => exact fun ρ' σ' H' s' q => h ρ' σ' H' (s.trans s') q
  | exc c fs env M => exact fun ρ' σ' dd vfs H' s' q => h ρ' σ' dd vfs H' (s.trans s') q
  | bad => exact h
theorem DenS.bind {f : SMs} (h : DenS T W ρ H (r.bind f) D) : DenS T W ρ H r { D with nx := fun σ' H' => ∃ ρ1 env M1, EnvR T ρ1 H' env σ' ∧ HeapR T ρ1 M1 H' ∧ DenS T W ρ1 H' (f env M1) D } := by
  cases r with
  | nx env M => exact fun ρ' σ' H' s' q => ⟨ρ', env, M, q, s'.hr, DenS.lift s' h⟩
  | ret d M => exact h
  | brk env M => exact h
  | cnt env M => exact h
  | exc c fs env M => exact h
  | bad => exact h
theorem DenS.ends (h : DenS T W ρ H r D) (h1 : ∀ σ H, D.nx σ H → D'.nx σ H) (h2 : ∀ v H, D.rt v H → D'.rt v H) (h3 : ∀ σ H, D.bk σ H → D'.bk σ H) (h4 : ∀ σ H, D.ct σ H → D'.ct σ H) : DenS T W ρ H r D' := by
  cases r with
  | nx env M => exact fun ρ' σ' H' s' q => h1 _ _ (h ρ' σ' H' s' q)
  | ret d M => exact fun ρ' σ' H' s' q => h2 _ _ (h ρ' σ' H' s' q)
  | brk env M => exact fun ρ' σ' H' s' q => h3 _ _ (h ρ' σ' H' s' q)
  | cnt env M => exact fun ρ' σ' H' s' q => h4 _ _ (h ρ' σ' H' s' q)
  | exc c fs env M => exact h
  | bad => exact h
/-- from an expression on -/
theorem DenS.st {α β : Type} {R : RelX α β} {a : Res α} {f : α → Hh → RS} (he : EnvR T ρ H env σ) (h : DenS T W ρ H (a.st env f) D) :
    Den T R W σ ρ H a fun v H1 => ∃ ρ1 M1 d, Stp T ρ H ρ1 M1 H1 ∧ R T ρ1 H1 d v ∧ DenS T W ρ1 H1 (f d M1) D := by
  cases a with
  | ok d M => exact fun ρ' v H' s q => ⟨ρ', M, d, s, q, DenS.lift s h⟩
  | exc c fs M => exact fun ρ' dd vfs H' s e q => h ρ' σ dd vfs H' s (he.stp s) e q
  | bad => exact h
end

section
variable {T : Tab} {N : List Str} {sc : Scope} {k : Nat} {cm : Bool} {e a b c o : Expr} {ma mb mc : SMo D} {ta tb : SMo Bool} {es : List Expr} {mas : SMo (List D)} {pos p' : Pos} {x : Str} {st : Stmt} {sts sts' : List Stmt} {ms ms' : SMs}
/-! ### blocks -/
def sNil : SMs := fun env M => .nx env M
def sSeq (a b : SMs) : SMs := fun env M => (a env M).bind b
theorem sb_nil : SB T N sc k cm [] sNil := fun X W g tk => by
  refine PSs.imp pss_nil fun D σ H h => ?_
  obtain ⟨ρ, env, M, he, hh, hd⟩ := h
  exact hd ρ σ H (Stp.refl hh) he
theorem sb_cons (h1 : SS T N sc k cm st ms) (h2 : SB T N sc k cm sts ms') : SB T N sc k cm (st :: sts) (sSeq ms ms') := fun X W g tk => by
  refine PSs.imp (pss_cons (h1 X W g tk) (h2 X W g tk)) fun D σ H h => ?_
  obtain ⟨ρ, env, M, he, hh, hd⟩ := h
  exact ⟨ρ, env, M, he, hh, DenS.bind hd⟩
theorem sb_one (h1 : SS T N sc k cm st ms) : SB T N sc k cm [st] ms := fun X W g tk => pss_one (h1 X W g tk)
/-! ### small statements -/
theorem ss_pass : SS T N sc k cm (.Pass pos) sNil := fun X W g tk => by
  refine PS.imp ps_pass fun D σ H h => ?_
  obtain ⟨ρ, env, M, he, hh, hd⟩ := h
  exact hd ρ σ H (Stp.refl hh) he
def sBrk : SMs := fun env M => .brk env M
def sCnt : SMs := fun env M => .cnt env M
theorem ss_break : SS T N sc k cm (.Break pos) sBrk := fun X W g tk => by
  refine PS.imp ps_break fun D σ H h => ?_
  obtain ⟨ρ, env, M, he, hh, hd⟩ := h
  exact hd ρ σ H (Stp.refl hh) he
theorem ss_continue : SS T N sc k cm (.Continue pos) sCnt := fun X W g tk => by
  refine PS.imp ps_continue fun D σ H h => ?_
  obtain ⟨ρ, env, M, he, hh, hd⟩ := h
  exact hd ρ σ H (Stp.refl hh) he
def sExpr (a : SMo D) : SMs := fun env M => (a env M).st env fun _ M1 => .nx env M1
theorem ss_expr (ha : SE T N sc k cm e ma) (hs : ∀ env, swapsWith e none pos.line env = pure false := by intro _; rfl) : SS T N sc k cm (.Expr e pos) (sExpr ma) := fun X W g tk => by
  refine PS.imp (ps_expr (ha X W g.toGood tk) (hs _)) fun D σ H h => ?_
  obtain ⟨ρ, env, M, he, hh, hd⟩ := h
  refine ⟨ρ, env, M, he, hh, Den.mono (DenS.st he hd) fun v H1 ⟨ρ1, M1, d, s1, r1, q1⟩ => ?_⟩
  exact q1 ρ1 σ H1 (Stp.refl s1.hr) (he.stp s1)
def sRet (a : SMo D) : SMs := fun env M => (a env M).st env fun d M1 => .ret d M1
def sRetN : SMs := fun _ M => .ret .non M
theorem ss_ret (ha : SE T N sc k cm e ma) : SS T N sc k cm (.Return (some e) pos) (sRet ma) := fun X W g tk => by
  refine PS.imp (ps_ret (ha X W g.toGood tk)) fun D σ H h => ?_
  obtain ⟨ρ, env, M, he, hh, hd⟩ := h
  refine ⟨ρ, env, M, he, hh, Den.mono (DenS.st he hd) fun v H1 ⟨ρ1, M1, d, s1, r1, q1⟩ => ?_⟩
  exact q1 ρ1 v H1 (Stp.refl s1.hr) r1
theorem ss_retN : SS T N sc k cm (.Return none pos) sRetN := fun X W g tk => by
  refine PS.imp ps_retN fun D σ H h => ?_
  obtain ⟨ρ, env, M, he, hh, hd⟩ := h
  exact hd ρ .non H (Stp.refl hh) rp_non
def sIf (t : SMo Bool) (a b : SMs) : SMs := fun env M => (t env M).st env fun c M1 => match c with
  | true => a env M1
  | false => b env M1
theorem ss_if (hc : ST T N sc k cm c ta) (ha : SB T N sc k cm sts ms) (hb : SB T N sc k cm sts' ms') : SS T N sc k cm (.If c sts sts' pos) (sIf ta ms ms') := fun X W g tk => by
  refine PS.imp (ps_if (hc X W g.toGood tk) (ha X W g tk) (hb X W g tk)) fun D σ H h => ?_
  obtain ⟨ρ, env, M, he, hh, hd⟩ := h
  refine ⟨ρ, env, M, he, hh, Den.mono (DenS.st he hd) fun v H1 ⟨ρ1, M1, d, s1, r1, q1⟩ => ?_⟩
  cases (show d = v from r1)
  cases v with
  | true => exact iteT ⟨ρ1, env, M1, he.stp s1, s1.hr, q1⟩
  | false => exact iteF ⟨ρ1, env, M1, he.stp s1, s1.hr, q1⟩

/-! ### targets -/
abbrev SMg := D → SMs
def tG (T : Tab) (W : WX) (g : SMg) : TG := fun v σ H Q => ∃ ρ env M d, EnvR T ρ H env σ ∧ HeapR T ρ M H ∧ Rp T ρ H d v ∧ DenS T W ρ H (g d env M) { nx := Q, rt := fun _ _ => False }
def tGs (T : Tab) (W : WX) (g : List D → SMs) : TGs := fun vs σ H Q => ∃ ρ env M ds, EnvR T ρ H env σ ∧ HeapR T ρ M H ∧ Rps T ρ H ds vs ∧ DenS T W ρ H (g ds env M) { nx := Q, rt := fun _ _ => False }
def SG (T : Tab) (N : List Str) (sc : Scope) (k : Nat) (cm : Bool) (tg : Expr) (g : SMg) : Prop := ∀ X W, GoodS T N sc k cm X → Takes X W → PG X tg (tG T W g)
def SGs (T : Tab) (N : List Str) (sc : Scope) (k : Nat) (cm : Bool) (tg : List Expr) (g : List D → SMs) : Prop := ∀ X W, GoodS T N sc k cm X → Takes X W → PGs X tg (tGs T W g)
theorem PG.imp {X : Cx} {e : Expr} {t t' : TG} (h : PG X e t) (i : ∀ v σ H Q, t' v σ H Q → t v σ H Q) : PG X e t' := ⟨fun pins s σ H v u Q I r q => h.run pins s σ H v u Q I r (i v σ H Q q)⟩
theorem PGs.imp {X : Cx} {e : List Expr} {t t' : TGs} (h : PGs X e t) (i : ∀ v σ H Q, t' v σ H Q → t v σ H Q) : PGs X e t' := ⟨fun pins s σ H v u Q I r q => h.run pins s σ H v u Q I r (i v σ H Q q)⟩
def gName (i : Nat) : SMg := fun d env M => .nx (env.set i (some d)) M
theorem name_use {W : WX} {i : Nat} {v : V} {σ : L2.St} {H : Hp} {Q : L2.St → Hp → Prop} (h : tG T W (gName i) v σ H Q) : L2.gName i v σ H Q := by
  obtain ⟨ρ, env, M, d, he, hh, r, hd⟩ := h
  exact hd ρ _ H (Stp.refl hh) (he.set r)
theorem sg_name (i : Nat) (hN : N[i]? = some x) (hx : Loc sc x) : SG T N sc k cm (.Name x pos) (gName i) := fun X W g tk =>
  PG.imp (pg_name (i := i) (by rw [g.hN]; exact g.nd) (by rw [g.hN]; exact hN) (by rw [g.hsc]; exact hx) (.inl (g.fnt x))) fun v σ H Q h => name_use h
def gNil : List D → SMs := fun ds env M => match ds with
  | [] => .nx env M
  | _ => .bad
def gCons (g : SMg) (h : List D → SMs) : List D → SMs := fun ds env M => match ds with
  | d :: r => (g d env M).bind (h r)
  | [] => .bad
theorem sgs_nil : SGs T N sc k cm [] gNil := fun X W g tk => by
  refine PGs.imp pgs_nil fun v σ H Q h => ?_
  obtain ⟨ρ, env, M, ds, he, hh, r, hd⟩ := h
  cases ds with
  | nil => exact ⟨r.nil_inv, hd ρ σ H (Stp.refl hh) he⟩
  | cons _ _ => exact hd.elim
theorem sgs_cons {g : SMg} {gs : List D → SMs} (h1 : SG T N sc k cm e g) (h2 : SGs T N sc k cm es gs) (hs : ∀ env, (assignEach (e :: es) env).map (·.2) = assign e env :: (assignEach es env).map (·.2) := by intro _; rfl) : SGs T N sc k cm (e :: es) (gCons g gs) := fun X W gd tk => by
  refine PGs.imp (pgs_cons (h1 X W gd tk) (h2 X W gd tk) (hs _)) fun v σ H Q h => ?_
  obtain ⟨ρ, env, M, ds, he, hh, r, hd⟩ := h
  cases ds with
  | nil => exact hd.elim
  | cons d ds =>
    obtain ⟨v0, r0, rfl, q1, q2⟩ := r.cons_inv
    refine ⟨v0, r0, rfl, ρ, env, M, d, he, hh, q1, ?_⟩
    have hd : DenS T W ρ H ((g d env M).bind (gs ds)) { nx := Q, rt := fun _ _ => False } := hd
    cases e1 : g d env M with
    | nx env' M' =>
      rw [e1] at hd
      exact fun ρ' σ' H' s' q => ⟨ρ', env', M', ds, q, s'.hr, q2.stp s', DenS.lift s' hd⟩
    | ret _ _ => rw [e1] at hd; exact hd
    | brk _ _ => rw [e1] at hd; exact hd
    | cnt _ _ => rw [e1] at hd; exact hd
    | exc _ _ _ _ => rw [e1] at hd; exact hd
    | bad => rw [e1] at hd; exact hd
/-- (a, b, ..) = a tuple of that length -/
def gTup (n : Nat) (g : List D → SMs) : SMg := fun d env M => match d with
  | .tup xs => if xs.length = n then g xs env M else .bad
  | _ => .bad
theorem sg_tup {kk n : Nat} {gs : List D → SMs} (h : SGs T N sc k true es gs) (hn : ∀ env, (assignEach es env).length = n := by intro _; rfl) (hst : ∀ env, (assignEach es env).findIdx? (·.1) = none := by intro _; rfl) : SG T N sc k true (.Tuple es kk pos) (gTup n gs) := fun X W gd tk => by
  refine PG.imp (pg_tup (n := n) gd.calm (h X W gd tk) (hn _) (hst _)) fun v σ H Q h => ?_
  obtain ⟨ρ, env, M, d, he, hh, r, hd⟩ := h
  cases d with
  | tup xs =>
    have hd : DenS T W ρ H (if xs.length = n then gs xs env M else .bad) _ := hd
    split at hd
    · rename_i hl
      obtain ⟨a, vs, rfl, s1, t1⟩ := rp_tup_inv r
      refine ⟨a, vs, rfl, by rw [gd.hK]; exact s1, t1.length.trans hl, ρ, env, M, xs, he, hh, t1, hd⟩
    · exact hd.elim
  | _ => exact hd.elim
/-! ### o[i] = .. -/
def setIx (o i d : D) (M : Hh) : Option Hh := match o, i with
  | .loc l, .int j => match M[l]? with
    | some (.lst xs) => (ixN xs.length j).map fun n => M.set l (.lst (xs.set n d))
    | _ => none
  | _, _ => none
def gIx (o i : SMo D) : SMg := fun d env M => (o env M).st env fun x M1 => (i env M1).st env fun y M2 => match setIx x y d M2 with
  | some M3 => .nx env M3
  | none => .bad
def rSet (T : Tab) : TSet := fun o i v H Q => ∃ ρ M d1 d2 d3 M', HeapR T ρ M H ∧ Rp T ρ H d1 o ∧ Rp T ρ H d2 i ∧ Rp T ρ H d3 v ∧ setIx d1 d2 d3 M = some M' ∧ ∀ ρ' H', Stp T ρ H ρ' M' H' → Q H'
theorem OR.lst {ρ : List Addr} {H : Hp} {p : Addr} {xs : List D} {vs : List V} (t : Rps T ρ H xs vs) (h0 : ∃ u, H p = some u ∧ ¬ Imm u) : OR T ρ (upd H p (.lst vs)) p (.lst xs) := by
  obtain ⟨u, h1, h2⟩ := h0
  exact ⟨vs, upd_same, t.mono List.prefix_rfl (Ext.put h1 h2)⟩
theorem set_ok {X : Cx} (gd : Good T N sc k cm X) : PSet X (rSet T) := by
  intro pins s σ H o i v ov iv u Q I ro ri rv ⟨ρ, M, d1, d2, d3, M', hh, r1, r2, r3, e, q⟩
  unfold setIx at e
  split at e
  · rename_i l j
    split at e
    · rename_i xs em
      obtain ⟨n, e1, e2⟩ := Option.map_eq_some_iff.mp e
      cases e2
      obtain ⟨a, rfl, ea, vs, h1, t1⟩ := hh.at_ r1 em
      refine set_list pins s σ H _ i v ov iv u Q I ro ri rv ⟨a, vs, j, n, rfl, rp_int_inv r2, h1, by rw [t1.length]; exact e1, ?_⟩
      exact q ρ _ (Stp.put hh ea h1 id (OR.lst (t1.set n r3) ⟨_, h1, id⟩))
    · cases e
  · cases e
theorem sg_ix (ho : SE T N sc k cm o ma) (hi : SE T N sc k cm a mb)
    (ha : ∀ env v, assign (.Subscript o a pos) env v = (do
      let ov ← holding [v] (eval o env)
      let iv ← holding [v, ov] (eval a env)
      standAt pos
      holding [v, ov, iv] (setItem ov iv v)
      release [v, ov, iv] []) := by intros; rfl) : SG T N sc k cm (.Subscript o a pos) (gIx ma mb) := fun X W gd tk => by
  refine PG.imp (pg_sub (ho X W gd.toGood tk) (hi X W gd.toGood tk) (set_ok gd.toGood) (ha _)) fun v σ H Q h => ?_
  obtain ⟨ρ, env, M, d, he, hh, r, hd⟩ := h
  refine ⟨ρ, env, M, he, hh, Den.mono (DenS.st he hd) fun x H1 ⟨ρ1, M1, d1, s1, r1, q1⟩ => ?_⟩
  refine ⟨ρ1, env, M1, he.stp s1, s1.hr, Den.mono (DenS.st (he.stp s1) q1) fun y H2 ⟨ρ2, M2, d2, s2, r2, q2⟩ => ?_⟩
  cases e1 : setIx d1 d2 d M2 with
  | none => rw [e1] at q2; exact q2.elim
  | some M3 =>
    rw [e1] at q2
    exact ⟨ρ2, M2, d1, d2, d, M3, s2.hr, r1.stp s2, r2, (r.stp s1).stp s2, e1, fun ρ' H' s' => q2 ρ' σ H' s' (((he.stp s1).stp s2).stp s')⟩
/-! ### target = value -/
def sAsg (a : SMo D) (g : SMg) : SMs := fun env M => (a env M).st env fun d M1 => g d env M1
theorem asg_use {W : WX} {g : SMg} {D : Ends} {σ : L2.St} {H : Hp} {tg : TG} (hg : ∀ v σ H Q, tG T W g v σ H Q → tg v σ H Q) (hok : ∀ d env M, (match g d env M with | .ret _ _ => False | .brk _ _ => False | .cnt _ _ => False | _ => True)) (h : tS T W (sAsg ma g) D σ H) : tAsg (tE T W ma) tg D σ H := by
  obtain ⟨ρ, env, M, he, hh, hd⟩ := h
  refine ⟨ρ, env, M, he, hh, Den.mono (DenS.st he hd) fun v H1 ⟨ρ1, M1, d, s1, r1, q1⟩ => ?_⟩
  refine hg _ _ _ _ ⟨ρ1, env, M1, d, he.stp s1, s1.hr, r1, ?_⟩
  have := hok d env M1
  cases e1 : g d env M1 <;> rw [e1] at q1 this <;> first | exact q1 | exact this.elim
def OkG (g : SMg) : Prop := ∀ d env M, (match g d env M with | .ret _ _ => False | .brk _ _ => False | .cnt _ _ => False | _ => True)
def OkGs (g : List D → SMs) : Prop := ∀ d env M, (match g d env M with | .ret _ _ => False | .brk _ _ => False | .cnt _ _ => False | _ => True)
theorem okg_name (i : Nat) : OkG (gName i) := fun d env M => trivial
theorem okg_ix {o i : SMo D} : OkG (gIx o i) := fun d env M => by
  unfold gIx
  cases o env M with
  | ok x M1 =>
    simp only [Res.st_ok]
    cases i env M1 with
    | ok y M2 => simp only [Res.st_ok]; cases setIx x y d M2 <;> trivial
    | exc _ _ _ => trivial
    | bad => trivial
  | exc _ _ _ => trivial
  | bad => trivial
theorem okgs_nil : OkGs gNil := fun d env M => by cases d <;> trivial
theorem okgs_cons {g : SMg} {gs : List D → SMs} (h1 : OkG g) (h2 : OkGs gs) : OkGs (gCons g gs) := fun ds env M => by
  cases ds with
  | nil => trivial
  | cons d r =>
    show (match (g d env M).bind (gs r) with | .ret _ _ => False | .brk _ _ => False | .cnt _ _ => False | _ => True)
    have := h1 d env M
    cases e : g d env M <;> rw [e] at this <;> first | exact this.elim | trivial | exact h2 r _ _
theorem okg_tup {n : Nat} {gs : List D → SMs} (h : OkGs gs) : OkG (gTup n gs) := fun d env M => by
  cases d <;> try trivial
  rename_i xs
  by_cases hl : xs.length = n
  · have e : gTup n gs (.tup xs) env M = gs xs env M := if_pos hl
    rw [e]; exact h xs env M
  · have e : gTup n gs (.tup xs) env M = .bad := if_neg hl
    rw [e]; trivial
theorem ss_asg {g : SMg} (ha : SE T N sc k cm e ma) (hg : SG T N sc k cm a g) (ok : OkG g) (hs : ∀ env, swapsWithSole [a] e pos.line env = pure false := by intro _; rfl) (hw : ∀ env, swappedStores [a] e env = pure none := by intro _; rfl)
    (h1 : ∀ env, (assignEach [a] env).map (·.2) = [assign a env] := by intro _; rfl) : SS T N sc k cm (.Assign [a] e pos) (sAsg ma g) := fun X W gd tk =>
  PS.imp (ps_asg (ha X W gd.toGood tk) (hg X W gd tk) (hs _) (hw _) (h1 _)) fun D σ H h => asg_use (fun _ _ _ _ h => h) ok h
theorem ss_set (i : Nat) (hN : N[i]? = some x) (hx : Loc sc x) (ha : SE T N sc k cm e ma) (hs : ∀ env, swapsWith e (some (.Name x p')) pos.line env = pure false := by intro _; rfl) : SS T N sc k cm (.Assign [.Name x p'] e pos) (sAsg ma (gName i)) := fun X W gd tk =>
  PS.imp (ps_set (i := i) (by rw [gd.hN]; exact gd.nd) (by rw [gd.hN]; exact hN) (by rw [gd.hsc]; exact hx) (ha X W gd.toGood tk) (hs _) (.inl (gd.fnt x))) fun D σ H h => asg_use (fun _ _ _ _ h => name_use h) (okg_name i) h
/-- a, b = x, y, plain locals -/
def sPar (i j : Nat) (a b : SMo D) : SMs := fun env M => (a env M).st env fun x M1 => (b env M1).st env fun y M2 => .nx ((env.set i (some x)).set j (some y)) M2
theorem ss_par (i j : Nat) {x y : Str} {px py pt : Pos} {kt k2 : Nat} {pt2 : Pos} (hi : N[i]? = some x) (hj : N[j]? = some y) (hij : i ≠ j) (hx : sc.names.lookup x = some .local) (hy : sc.names.lookup y = some .local) (ha : SE T N sc k true a ma) (hb : SE T N sc k true b mb)
    (hw : ∀ env : Env, env.scope = sc → swappedStores [.Tuple [.Name x px, .Name y py] kt pt] (.Tuple [a, b] k2 pt2) env = pure (some [x, y]))
    (hs : ∀ env, swapsWithSole [.Tuple [.Name x px, .Name y py] kt pt] (.Tuple [a, b] k2 pt2) pos.line env = pure false := by intro _; rfl)
    (h1 : ∀ env, starEach [a, b] env = [(false, eval a env), (false, eval b env)] := by intro _; rfl) (h2 : ∀ env, starEach [b] env = [(false, eval b env)] := by intro _; rfl) :
    SS T N sc k true (.Assign [.Tuple [.Name x px, .Name y py] kt pt] (.Tuple [a, b] k2 pt2) pos) (sPar i j ma mb) := fun X W gd tk => by
  refine PS.imp (ps_par (i := i) (j := j) gd.calm (by rw [gd.hN]; exact gd.nd) (by rw [gd.hN]; exact hi) (by rw [gd.hN]; exact hj) hij (by rw [gd.hsc]; exact hx) (by rw [gd.hsc]; exact hy)
    (pa_cons (ha X W gd.toGood tk) (pa_cons (hb X W gd.toGood tk) pa_nil (by rw [h2]; rfl)) (by rw [h1, h2])) (hw _ gd.hsc) (hs _)) fun D σ H h => ?_
  obtain ⟨ρ, env, M, he, hh, hd⟩ := h
  refine ⟨ρ, env, M, he, hh, Den.mono (DenS.st he hd) fun v H1 ⟨ρ1, M1, d, s1, r1, q1⟩ => ?_⟩
  refine ⟨ρ1, env, M1, he.stp s1, s1.hr, Den.mono (DenS.st (he.stp s1) q1) fun w H2 ⟨ρ2, M2, d2, s2, r2, q2⟩ => ?_⟩
  exact ⟨v, w, rfl, q2 ρ2 _ H2 (Stp.refl s2.hr) ((((he.stp s1).stp s2).set (r1.stp s2)).set r2)⟩
/-! ### name op= value -/
def sAug (i : Nat) (f : Op2) (a : SMo D) : SMs := fun env M => match env[i]? with
  | some (some x) => (a env M).st env fun y M1 => match f x y M1 with
    | some (z, M2) => .nx (env.set i (some z)) M2
    | none => .bad
  | _ => .bad
theorem ss_aug (i : Nat) {op : Operator} {f : Op2} (hN : N[i]? = some x) (hx : Loc sc x) (ha : SE T N sc k cm e ma) (ho : OpG T N sc k cm (inplaceOp op) f) : SS T N sc k cm (.AugAssign (.Name x p') op e pos) (sAug i f ma) := fun X W gd tk => by
  refine PS.imp (ps_aug (i := i) (ti := rOp T f) (by rw [gd.hN]; exact gd.nd) (by rw [gd.hN]; exact hN) (by rw [gd.hsc]; exact hx) (ha X W gd.toGood tk) (ho X gd.toGood) (.inl (gd.fnt x))) fun D σ H h => ?_
  obtain ⟨ρ, env, M, he, hh, hd⟩ := h
  unfold sAug at hd
  split at hd
  · rename_i x0 ex
    obtain ⟨v, ev, rv⟩ := he.at_ _ _ ex
    refine ⟨v, ev, ρ, env, M, he, hh, Den.mono (DenS.st he hd) fun w H1 ⟨ρ1, M1, d, s1, r1, q1⟩ => ?_⟩
    split at q1
    · rename_i z M2 ez
      exact ⟨ρ1, M1, x0, d, z, M2, s1.hr, rv.stp s1, r1, ez, fun ρ' v' H' s r => q1 ρ' _ H' s (((he.stp s1).stp s).set r)⟩
    · exact q1.elim
  · exact hd.elim

/-! ### while -/
def NN : Nat := 1000000000000
def loopW (t : SMo Bool) (b : SMs) : Nat → SMs
  | 0, _, _ => .bad
  | n + 1, env, M => (t env M).st env fun c M1 => match c with
    | true => match b env M1 with
      | .nx env' M' => loopW t b n env' M'
      | .cnt env' M' => loopW t b n env' M'
      | .brk env' M' => .nx env' M'
      | r => r
    | false => .nx env M1
def sWhile (t : SMo Bool) (b : SMs) : SMs := fun env M => loopW t b NN env M
theorem ss_while (hc : ST T N sc k cm c ta) (hb : SB T N sc k cm sts ms) : SS T N sc k cm (.While c sts [] pos) (sWhile ta ms) := fun X W gd tk => by
  refine PS.imp (ps_while gd.pas (hc X W gd.toGood tk) (hb X W gd tk)) fun D σ H h => ?_
  obtain ⟨ρ, env, M, he, hh, hd⟩ := h
  refine ⟨fun m σ H => ∃ ρ env M, EnvR T ρ H env σ ∧ HeapR T ρ M H ∧ DenS T W ρ H (loopW ta ms m env M) D, ⟨NN, ρ, env, M, he, hh, hd⟩, ?_⟩
  rintro m σ H ⟨ρ, env, M, he, hh, hd⟩
  cases m with
  | zero => exact hd.elim
  | succ n =>
    refine ⟨ρ, env, M, he, hh, Den.mono (DenS.st he hd) fun v H1 ⟨ρ1, M1, d, s1, r1, q1⟩ => ?_⟩
    cases (show d = v from r1)
    cases v with
    | true =>
      refine iteT ⟨fun σ' H' => ∃ ρ env M, EnvR T ρ H' env σ' ∧ HeapR T ρ M H' ∧ DenS T W ρ H' (loopW ta ms n env M) D, fun σ' H' w => ⟨n, Nat.lt_succ_self _, w⟩, ρ1, env, M1, he.stp s1, s1.hr, ?_⟩
      have q1 : DenS T W ρ1 H1 (match ms env M1 with | .nx env' M' => loopW ta ms n env' M' | .cnt env' M' => loopW ta ms n env' M' | .brk env' M' => .nx env' M' | r => r) D := q1
      cases e : ms env M1 with
      | nx env' M' => rw [e] at q1; exact fun ρ' σ' H' s q => ⟨ρ', env', M', q, s.hr, DenS.lift s q1⟩
      | cnt env' M' => rw [e] at q1; exact fun ρ' σ' H' s q => ⟨ρ', env', M', q, s.hr, DenS.lift s q1⟩
      | brk env' M' => rw [e] at q1; exact q1
      | ret _ _ => rw [e] at q1; exact q1
      | exc _ _ _ _ => rw [e] at q1; exact q1
      | bad => rw [e] at q1; exact q1
    | false => exact iteF (q1 ρ1 σ H1 (Stp.refl s1.hr) (he.stp s1))

/-! ### for -/
/-- what a loop walks: at turn i: none: it can't be told; some none: the end; an item -/
abbrev IterD := Nat → Hh → Option (Option D)
def JR (T : Tab) (ρ0 : List Addr) (H0 : Hp) (it : IterD) (J : It) : Prop := ∀ i ρ M H, ρ0 <+: ρ → Ext H0 H → HeapR T ρ M H → match it i M with
  | none => True
  | some none => J.stop i H
  | some (some d) => J.go i H ∧ ∀ x H', J.yld i H x H' → Stp T ρ H ρ M H' ∧ Rp T ρ H' d x
def tI (T : Tab) (W : WX) (m : SMo IterD) : TI := fun σ H R => ∃ ρ env M, EnvR T ρ H env σ ∧ HeapR T ρ M H ∧ Den T (fun T ρ H it J => JR T ρ H it J) W σ ρ H (m env M) R
def SI (T : Tab) (N : List Str) (sc : Scope) (k : Nat) (cm : Bool) (tg iter : Expr) (m : SMo IterD) : Prop := ∀ X W, Good T N sc k cm X → Takes X W → PI X tg iter (tI T W m)
theorem PI.imp {X : Cx} {tg e : Expr} {t t' : TI} (h : PI X tg e t) (i : ∀ σ H Q, t' σ H Q → t σ H Q) : PI X tg e t' := ⟨fun pins s σ H Q I q => h.run pins s σ H Q I (i σ H Q q)⟩
def loopF (it : IterD) (g : SMg) (b : SMs) : Nat → Nat → SMs
  | 0, _, _, _ => .bad
  | n + 1, i, env, M => match it i M with
    | none => .bad
    | some none => .nx env M
    | some (some d) => match (g d env M).bind b with
      | .nx env' M' => loopF it g b n (i + 1) env' M'
      | .cnt env' M' => loopF it g b n (i + 1) env' M'
      | .brk env' M' => .nx env' M'
      | r => r
def sFor (it : SMo IterD) (g : SMg) (b : SMs) : SMs := fun env M => (it env M).st env fun J M1 => loopF J g b NN 0 env M1
theorem ss_for {tg it : Expr} {mi : SMo IterD} {g : SMg} (hi : SI T N sc k true tg it mi) (hg : SG T N sc k true tg g) (ok : OkG g) (hb : SB T N sc k true sts ms) (hs : ∀ env x, foldedSetIterable it env x = pure x := by intros; rfl) : SS T N sc k true (.For tg it sts [] pos) (sFor mi g ms) := fun X W gd tk => by
  refine PS.imp (ps_for gd.pas gd.calm (hi X W gd.toGood tk) (hg X W gd tk) (hb X W gd tk) (hs _)) fun D σ H h => ?_
  obtain ⟨ρ, env, M, he, hh, hd⟩ := h
  refine ⟨ρ, env, M, he, hh, Den.mono (DenS.st he hd) fun J H1 ⟨ρ1, M1, it, s1, r1, q1⟩ => ?_⟩
  refine ⟨fun i m σ H => ∃ ρ env M, ρ1 <+: ρ ∧ Ext H1 H ∧ EnvR T ρ H env σ ∧ HeapR T ρ M H ∧ DenS T W ρ H (loopF it g ms m i env M) D, ⟨NN, ρ1, env, M1, List.prefix_rfl, Ext.refl _, he.stp s1, s1.hr, q1⟩, ?_⟩
  rintro i m σ H ⟨ρ, env, M, hp, hx, he, hh, hd⟩
  cases m with
  | zero => exact hd.elim
  | succ n =>
    have hd : DenS T W ρ H (match it i M with | none => .bad | some none => .nx env M | some (some d) => match (g d env M).bind ms with | .nx env' M' => loopF it g ms n (i + 1) env' M' | .cnt env' M' => loopF it g ms n (i + 1) env' M' | .brk env' M' => .nx env' M' | r => r) D := hd
    have hj := r1 i ρ M H hp hx hh
    cases e : it i M with
    | none => rw [e] at hd; exact hd.elim
    | some o =>
      rw [e] at hd hj
      cases o with
      | none => exact .inl ⟨hj, hd ρ σ H (Stp.refl hh) he⟩
      | some d =>
        obtain ⟨go, hy⟩ := hj
        refine .inr ⟨go, fun σ' H' => ∃ ρ env M, ρ1 <+: ρ ∧ Ext H1 H' ∧ EnvR T ρ H' env σ' ∧ HeapR T ρ M H' ∧ DenS T W ρ H' (loopF it g ms n (i + 1) env M) D, fun σ' H' w => ⟨n, Nat.lt_succ_self _, w⟩, fun x H' y => ?_⟩
        obtain ⟨s2, r2⟩ := hy x H' y
        have hd := DenS.lift s2 hd
        refine ⟨ρ, env, M, d, he.stp s2, s2.hr, r2, ?_⟩
        have hok := ok d env M
        have tail : ∀ env' M' ρ' σ' H'', Stp T ρ H' ρ' M' H'' → EnvR T ρ' H'' env' σ' →
            DenS T W ρ' H'' (match ms env' M' with | .nx env' M' => loopF it g ms n (i + 1) env' M' | .cnt env' M' => loopF it g ms n (i + 1) env' M' | .brk env' M' => .nx env' M' | r => r) D →
            tS T W ms { D with nx := fun σ' H' => ∃ ρ env M, ρ1 <+: ρ ∧ Ext H1 H' ∧ EnvR T ρ H' env σ' ∧ HeapR T ρ M H' ∧ DenS T W ρ H' (loopF it g ms n (i + 1) env M) D, ct := fun σ' H' => ∃ ρ env M, ρ1 <+: ρ ∧ Ext H1 H' ∧ EnvR T ρ H' env σ' ∧ HeapR T ρ M H' ∧ DenS T W ρ H' (loopF it g ms n (i + 1) env M) D, bk := D.nx } σ' H'' := by
          intro env' M' ρ' σ' H'' s3 e3 q3
          refine ⟨ρ', env', M', e3, s3.hr, ?_⟩
          cases e4 : ms env' M' with
          | nx env'' M'' => rw [e4] at q3; exact fun ρ4 σ4 H4 s4 q => ⟨ρ4, env'', M'', (hp.trans s3.pre).trans s4.pre, ((hx.trans s2.ext).trans s3.ext).trans s4.ext, q, s4.hr, DenS.lift s4 q3⟩
          | cnt env'' M'' => rw [e4] at q3; exact fun ρ4 σ4 H4 s4 q => ⟨ρ4, env'', M'', (hp.trans s3.pre).trans s4.pre, ((hx.trans s2.ext).trans s3.ext).trans s4.ext, q, s4.hr, DenS.lift s4 q3⟩
          | brk env'' M'' => rw [e4] at q3; exact q3
          | ret _ _ => rw [e4] at q3; exact q3
          | exc _ _ _ _ => rw [e4] at q3; exact q3
          | bad => rw [e4] at q3; exact q3
        cases e1 : g d env M with
        | nx env' M' =>
          simp only [e1, RS.bind_nx] at hd
          exact fun ρ' σ' H'' s3 q => tail env' M' ρ' σ' H'' s3 q (DenS.lift s3 hd)
        | ret _ _ => rw [e1] at hok; exact hok.elim
        | brk _ _ => rw [e1] at hok; exact hok.elim
        | cnt _ _ => rw [e1] at hok; exact hok.elim
        | exc _ _ _ _ => simp only [e1, RS.bind_exc] at hd; exact hd
        | bad => simp only [e1, RS.bind_bad] at hd; exact hd
/-- a list as it stands at each turn -/
def itLoc (l : Nat) : IterD := fun i M => match M[l]? with
  | some (.lst xs) => some xs[i]?
  | _ => none
def vIter (a : SMo D) : SMo IterD := fun env M => (a env M).bind fun d M1 => match d with
  | .frz xs => .ok (fun i _ => some xs[i]?) M1
  | .loc l => match M1[l]? with
    | some (.lst _) => .ok (itLoc l) M1
    | _ => .bad
  | _ => .bad
def vIterT (a : SMo D) : SMo IterD := fun env M => (a env M).bind fun d M1 => match d with
  | .tup xs => .ok (fun i _ => some xs[i]?) M1
  | _ => .bad
theorem si_list {tg : Expr} (ha : SE T N sc k cm a ma) : SI T N sc k cm tg a (vIter ma) := fun X W gd tk => by
  refine PI.imp (pi_list (ha X W gd tk)) fun σ H R h => ?_
  obtain ⟨ρ, env, M, he, hh, hd⟩ := h
  refine ⟨ρ, env, M, he, hh, Den.mono (Den.bind hd) fun v H1 ⟨ρ1, M1, d, s1, r1, q1⟩ => ?_⟩
  cases d with
  | frz xs =>
    obtain ⟨a, vs, rfl, f1, t1⟩ := rp_frz_inv r1
    refine ⟨a, rfl, ⟨vs, by rw [gd.hK]; exact f1.sq⟩, q1 ρ1 _ H1 (Stp.refl s1.hr) fun i ρ M H hp hx hh => ?_⟩
    have f2 := f1.ext hx
    have sq : SqL X.K H a vs := by rw [gd.hK]; exact f2.sq
    show match some xs[i]? with | none => True | some none => _ | some (some d) => _
    cases e : xs[i]? with
    | none => exact ⟨vs, sq, by rw [t1.length]; exact List.getElem?_eq_none_iff.mp e⟩
    | some d =>
      obtain ⟨w, h1, h2⟩ := t1.get e
      refine ⟨⟨vs, w, sq, h1⟩, fun x H' ⟨h3, h4⟩ => ?_⟩
      subst h3
      have := h4 vs sq
      rw [h1] at this; cases this
      exact ⟨Stp.refl hh, h2.mono hp hx⟩
  | loc l =>
    have q1 : Den T _ W σ ρ1 H1 (match M1[l]? with | some (.lst _) => .ok (itLoc l) M1 | _ => .bad) R := q1
    split at q1
    · rename_i xs0 em
      obtain ⟨a, rfl, ea, vs0, h1, t1⟩ := s1.hr.at_ r1 em
      refine ⟨a, rfl, ⟨vs0, SqL.of h1⟩, q1 ρ1 _ H1 (Stp.refl s1.hr) fun i ρ M H hp hx hh => ?_⟩
      have r2 := r1.mono hp hx
      show match (match M[l]? with | some (.lst xs) => some xs[i]? | _ => none) with | none => True | some none => _ | some (some d) => _
      split
      · trivial
      · rename_i e
        split at e
        · rename_i xs em
          obtain ⟨a', ha', ea', vs, h2, t2⟩ := hh.at_ r2 em
          cases ha'
          have sq : SqL X.K H a vs := SqL.of h2
          have e : xs[i]? = none := Option.some.inj e
          exact ⟨vs, sq, by rw [t2.length]; exact List.getElem?_eq_none_iff.mp e⟩
        · cases e
      · rename_i d e
        split at e
        · rename_i xs em
          obtain ⟨a', ha', ea', vs, h2, t2⟩ := hh.at_ r2 em
          cases ha'
          have sq : SqL X.K H a vs := SqL.of h2
          have e : xs[i]? = some d := Option.some.inj e
          obtain ⟨w, h3, h4⟩ := t2.get e
          refine ⟨⟨vs, w, sq, h3⟩, fun x H' ⟨h5, h6⟩ => ?_⟩
          subst h5
          have := h6 vs sq
          rw [h3] at this; cases this
          exact ⟨Stp.refl hh, h4⟩
        · cases e
    · exact q1.elim
  | _ => exact q1.elim
theorem si_tup {tg : Expr} (ha : SE T N sc k cm a ma) : SI T N sc k cm tg a (vIterT ma) := fun X W gd tk => by
  refine PI.imp (pi_tup (ha X W gd tk)) fun σ H R h => ?_
  obtain ⟨ρ, env, M, he, hh, hd⟩ := h
  refine ⟨ρ, env, M, he, hh, Den.mono (Den.bind hd) fun v H1 ⟨ρ1, M1, d, s1, r1, q1⟩ => ?_⟩
  cases d with
  | tup xs =>
    obtain ⟨a, vs, rfl, f1, t1⟩ := rp_tup_inv r1
    refine ⟨a, rfl, ⟨vs, by rw [gd.hK]; exact f1⟩, q1 ρ1 _ H1 (Stp.refl s1.hr) fun i ρ M H hp hx hh => ?_⟩
    have sq : SqT X.K H a vs := by rw [gd.hK]; exact sqt_ext hx f1
    show match some xs[i]? with | none => True | some none => _ | some (some d) => _
    cases e : xs[i]? with
    | none => exact ⟨vs, sq, by rw [t1.length]; exact List.getElem?_eq_none_iff.mp e⟩
    | some d =>
      obtain ⟨w, h1, h2⟩ := t1.get e
      refine ⟨⟨vs, w, sq, h1⟩, fun x H' ⟨h3, h4⟩ => ?_⟩
      subst h3
      have := h4 vs sq
      rw [h1] at this; cases this
      exact ⟨Stp.refl hh, h2.mono hp hx⟩
  | _ => exact q1.elim
def itR (lo : Int) (n : Nat) : IterD := fun i _ => some (if i < n then some (.int (lo + i)) else none)
def small62 (i : Int) : Bool := decide (-(2 ^ 62) ≤ i) && decide (i < 2 ^ 62)
def vRange1 (a : SMo D) : SMo IterD := fun env M => (a env M).bind fun d M1 => match d with
  | .int j => if small62 j then .ok (itR 0 j.toNat) M1 else .bad
  | _ => .bad
def vRange2 (a b : SMo D) : SMo IterD := fun env M => (a env M).bind fun x M1 => (b env M1).bind fun y M2 => match x, y with
  | .int i, .int j => if small62 i && small62 j then .ok (itR i (j - i).toNat) M2 else .bad
  | _, _ => .bad
theorem jr_range {ρ : List Addr} {H : Hp} (lo : Int) (n : Nat) : JR T ρ H (itR lo n) (Itr lo n) := fun i ρ M H hp hx hh => by
  show match some (if i < n then some (D.int (lo + i)) else none) with | none => True | some none => _ | some (some d) => _
  by_cases h : i < n
  · rw [if_pos h]
    exact ⟨h, fun x H' ⟨h1, h2⟩ => by subst h1; subst h2; exact ⟨Stp.refl hh, rp_int⟩⟩
  · rw [if_neg h]
    exact Nat.le_of_not_lt h
theorem si_range1 {tg : Expr} {p : Pos} (hg : sc.names.lookup ("range" : Str) = some .globalImplicit) (hm : T.mg ("range" : Str) = none) (ha : SE T N sc k cm a ma) (hs : ∀ env, starEach [a] env = [(false, eval a env)] := by intro _; rfl) : SI T N sc k cm tg (.Call (.Name "range" p) [a] [] pos) (vRange1 ma) := fun X W gd tk => by
  refine PI.imp (pi_range1 (X := X) (by show X.env.scope.names.lookup _ = _; rw [gd.hsc]; exact hg) (by rw [gd.hmg]; exact hm) (pa_cons (ha X W gd tk) pa_nil (by rw [hs]; rfl)) (hs _)) fun σ H R h => ?_
  obtain ⟨ρ, env, M, he, hh, hd⟩ := h
  refine ⟨ρ, env, M, he, hh, Den.mono (Den.bind hd) fun v H1 ⟨ρ1, M1, d, s1, r1, q1⟩ => ?_⟩
  cases d with
  | int j =>
    have q1 : Den T _ W σ ρ1 H1 (if small62 j then .ok (itR 0 j.toNat) M1 else .bad) R := q1
    split at q1
    · rename_i hj
      unfold small62 at hj
      simp only [Bool.and_eq_true, decide_eq_true_eq] at hj
      exact ⟨j, by rw [rp_int_inv r1], hj.1, hj.2, q1 ρ1 _ H1 (Stp.refl s1.hr) (jr_range 0 _)⟩
    · exact q1.elim
  | _ => exact q1.elim
theorem si_range2 {tg : Expr} {p : Pos} (hg : sc.names.lookup ("range" : Str) = some .globalImplicit) (hm : T.mg ("range" : Str) = none) (ha : SE T N sc k cm a ma) (hb : SE T N sc k cm b mb) (hs : ∀ env, starEach [a, b] env = [(false, eval a env), (false, eval b env)] := by intro _; rfl) (hs2 : ∀ env, starEach [b] env = [(false, eval b env)] := by intro _; rfl) :
    SI T N sc k cm tg (.Call (.Name "range" p) [a, b] [] pos) (vRange2 ma mb) := fun X W gd tk => by
  refine PI.imp (pi_range2 (X := X) (by show X.env.scope.names.lookup _ = _; rw [gd.hsc]; exact hg) (by rw [gd.hmg]; exact hm) (pa_cons (ha X W gd tk) (pa_cons (hb X W gd tk) pa_nil (by rw [hs2]; rfl)) (by rw [hs, hs2])) (hs _) (hs2 _)) fun σ H R h => ?_
  obtain ⟨ρ, env, M, he, hh, hd⟩ := h
  refine ⟨ρ, env, M, he, hh, Den.mono (Den.bind hd) fun v H1 ⟨ρ1, M1, d, s1, r1, q1⟩ => ?_⟩
  refine ⟨ρ1, env, M1, he.stp s1, s1.hr, Den.mono (Den.bind q1) fun w H2 ⟨ρ2, M2, d2, s2, r2, q2⟩ => ?_⟩
  cases d with
  | int i =>
    cases d2 with
    | int j =>
      have q2 : Den T _ W σ ρ2 H2 (if small62 i && small62 j then .ok (itR i (j - i).toNat) M2 else .bad) R := q2
      split at q2
      · rename_i hj
        unfold small62 at hj
        simp only [Bool.and_eq_true, decide_eq_true_eq] at hj
        exact ⟨i, j, by rw [rp_int_inv r1, rp_int_inv r2], ⟨hj.1.1, hj.1.2, hj.2.1, hj.2.2⟩, q2 ρ2 _ H2 (Stp.refl s2.hr) (jr_range i _)⟩
      · exact q2.elim
    | _ => exact q2.elim
  | _ => exact q2.elim
end
end Gm

set_option Elab.async false
set_option linter.all false
set_option maxRecDepth 100000
set_option autoImplicit false
/-! Gi5: defs: what a call leaves of my heap, contracts, calls of defs, methods, classes; built-ins -/
namespace Gm
open PySem PySem.Spec PyProof.Rows L2

/-! ### what a call leaves -/
mutual
/-- all places within are below n -/
def ltD (n : Nat) : D → Bool
  | .loc l => decide (l < n)
  | .tup xs => ltDs n xs
  | .frz xs => ltDs n xs
  | _ => true
def ltDs (n : Nat) : List D → Bool
  | [] => true
  | x :: xs => ltD n x && ltDs n xs
end
def ltF {α : Type} (n : Nat) (fs : List (α × D)) : Bool := fs.all fun p => ltD n p.2
def ltM (n : Nat) : MO → Bool
  | .lst xs => ltDs n xs
  | .ins _ fs => ltF n fs
  | .dic kvs => ltF n kvs
/-- the objects below n are as they were, or hold nothing new -/
def SetOk (M0 M' : Hh) : Prop := ∀ l, l < M0.length → M'[l]? = M0[l]? ∨ ∃ o, M'[l]? = some o ∧ ltM M0.length o = true
noncomputable def settle (M0 M' : Hh) (b : Bool) : Hh := @ite _ (b = true ∧ SetOk M0 M') (Classical.propDecidable _) (M'.take M0.length) M'
noncomputable def settleR (M0 : Hh) : Res D → Res D
  | .ok d M' => .ok d (settle M0 M' (ltD M0.length d))
  | .exc c fs M' => .exc c fs (settle M0 M' (ltF M0.length fs))
  | .bad => .bad
section
variable {T : Tab} {ρ ρ' : List Addr} {H H' : Hp} {M M' : Hh}
mutual
theorem Rp.lt : ∀ {d : D} {v : V}, Rp T ρ H d v → ltD ρ.length d = true
  | .non, _, _ => rfl
  | .bl _, _, _ => rfl
  | .int _, _, _ => rfl
  | .str _, _, _ => rfl
  | .fn _, _, _ => rfl
  | .loc l, _, h => by
    rw [Rp] at h
    obtain ⟨a, _, e⟩ := h
    simp only [ltD, decide_eq_true_eq]
    exact (List.getElem?_eq_some_iff.mp e).1
  | .tup xs, _, h => by
    obtain ⟨a, vs, _, _, t⟩ := rp_tup_inv h
    simp only [ltD]; exact Rps.lt t
  | .frz xs, _, h => by
    obtain ⟨a, vs, _, _, t⟩ := rp_frz_inv h
    simp only [ltD]; exact Rps.lt t
theorem Rps.lt : ∀ {d : List D} {v : List V}, Rps T ρ H d v → ltDs ρ.length d = true
  | [], _, _ => rfl
  | x :: xs, _, h => by
    obtain ⟨v, r, _, h1, h2⟩ := h.cons_inv
    simp only [ltDs, Bool.and_eq_true]; exact ⟨Rp.lt h1, Rps.lt h2⟩
end
mutual
theorem Rp.back (p : ρ <+: ρ') : ∀ {d : D} {v : V}, Rp T ρ' H d v → ltD ρ.length d = true → Rp T ρ H d v
  | .non, _, h, _ => by rw [Rp] at h ⊢; exact h
  | .bl _, _, h, _ => by rw [Rp] at h ⊢; exact h
  | .int _, _, h, _ => by rw [Rp] at h ⊢; exact h
  | .str _, _, h, _ => by rw [Rp] at h ⊢; exact h
  | .fn _, _, h, _ => by rw [Rp] at h ⊢; exact h
  | .loc l, _, h, hl => by
    rw [Rp] at h ⊢
    obtain ⟨a, e1, e⟩ := h
    simp only [ltD, decide_eq_true_eq] at hl
    refine ⟨a, e1, ?_⟩
    obtain ⟨t, rfl⟩ := p
    rw [List.getElem?_append_left hl] at e; exact e
  | .tup xs, _, h, hl => by
    obtain ⟨a, vs, rfl, s, t⟩ := rp_tup_inv h
    exact rp_tup s (Rps.back p t (by simpa [ltD] using hl))
  | .frz xs, _, h, hl => by
    obtain ⟨a, vs, rfl, s, t⟩ := rp_frz_inv h
    rw [Rp]; exact ⟨a, vs, rfl, s, Rps.back p t (by simpa [ltD] using hl)⟩
theorem Rps.back (p : ρ <+: ρ') : ∀ {d : List D} {v : List V}, Rps T ρ' H d v → ltDs ρ.length d = true → Rps T ρ H d v
  | [], _, h, _ => by rw [h.nil_inv]; exact Rps.nil
  | x :: xs, _, h, hl => by
    obtain ⟨v, r, rfl, h1, h2⟩ := h.cons_inv
    simp only [ltDs, Bool.and_eq_true] at hl
    exact Rps.cons (Rp.back p h1 hl.1) (Rps.back p h2 hl.2)
end
theorem paired_lt {α β : Type} {g : α → β} {fs : List (α × D)} {vfs : List (β × V)} (h : Paired (fun p q => g p.1 = q.1 ∧ Rp T ρ H p.2 q.2) fs vfs) : ltF ρ.length fs = true := by
  unfold ltF
  induction h with
  | nil => rfl
  | cons h t ih => rw [List.all_cons, Bool.and_eq_true]; exact ⟨h.2.lt, ih⟩
theorem paired_back {α β : Type} {g : α → β} (p : ρ <+: ρ') {fs : List (α × D)} {vfs : List (β × V)} (h : Paired (fun p q => g p.1 = q.1 ∧ Rp T ρ' H p.2 q.2) fs vfs) (hl : ltF ρ.length fs = true) : Paired (fun p q => g p.1 = q.1 ∧ Rp T ρ H p.2 q.2) fs vfs := by
  induction h with
  | nil => exact .nil
  | cons h t ih =>
    unfold ltF at hl ih
    rw [List.all_cons, Bool.and_eq_true] at hl
    exact .cons ⟨h.1, h.2.back p hl.1⟩ (ih hl.2)
theorem OR.lt {a : Addr} {o : MO} (h : OR T ρ H a o) : ltM ρ.length o = true := by
  cases o with
  | lst xs => obtain ⟨vs, _, t⟩ := h; exact t.lt
  | ins c fs => obtain ⟨dx, vs, _, t⟩ := h; exact paired_lt (g := T.nm) t
  | dic kvs => obtain ⟨vs, _, t⟩ := h; exact paired_lt (g := id) t
theorem OR.back (p : ρ <+: ρ') {a : Addr} {o : MO} (h : OR T ρ' H a o) (hl : ltM ρ.length o = true) : OR T ρ H a o := by
  cases o with
  | lst xs => obtain ⟨vs, e, t⟩ := h; exact ⟨vs, e, t.back p hl⟩
  | ins c fs => obtain ⟨dx, vs, e, t⟩ := h; exact ⟨dx, vs, e, paired_back (g := T.nm) p t hl⟩
  | dic kvs => obtain ⟨vs, e, t⟩ := h; exact ⟨vs, e, paired_back (g := id) p t hl⟩
theorem settle_ok (hh : HeapR T ρ M H) (s : Stp T ρ H ρ' M' H') (b : Bool) : ∃ ρ'', Stp T ρ H ρ'' (settle M M' b) H' ∧ ((b = true → ρ'' = ρ ∨ ρ'' = ρ') ∧ (b = false → ρ'' = ρ')) := by
  unfold settle
  by_cases h : b = true ∧ SetOk M M'
  · rw [if_pos h]
    have hle : M.length ≤ M'.length := by rw [← hh.len, ← s.hr.len]; exact s.pre.length_le
    refine ⟨ρ, ⟨List.prefix_rfl, ⟨?_, fun l o a e1 e2 => ?_, hh.inj⟩, s.ext⟩, fun _ => .inl rfl, fun q => by rw [h.1] at q; cases q⟩
    · rw [List.length_take, hh.len]; omega
    · have hl : l < M.length := by rw [← hh.len]; exact (List.getElem?_eq_some_iff.mp e2).1
      rw [List.getElem?_take_of_lt hl] at e1
      have e3 := pre_get s.pre e2
      have q := s.hr.obj l o a e1 e3
      refine q.back s.pre ?_
      rw [hh.len]
      rcases h.2 l hl with z | ⟨o', z1, z2⟩
      · rw [e1] at z
        have := (hh.obj l o a z.symm e2).lt
        rw [hh.len] at this; exact this
      · rw [e1] at z1; cases z1; exact z2
  · rw [if_neg h]
    exact ⟨ρ', s, fun _ => .inr rfl, fun _ => rfl⟩
theorem den_settle {W : WX} {σ : L2.St} {r : Res D} {Q : VK} (hh : HeapR T ρ M H) (h : Den T (fun T => Rp T) W σ ρ H (settleR M r) Q) : Den T (fun T => Rp T) W σ ρ H r Q := by
  cases r with
  | ok d M' =>
    intro ρ' v H' s q
    obtain ⟨ρ'', s2, h1, h2⟩ := settle_ok hh s (ltD M.length d)
    refine h ρ'' v H' s2 ?_
    have q : Rp T ρ' H' d v := q
    show Rp T ρ'' H' d v
    cases e : ltD M.length d with
    | true =>
      rcases h1 e with z | z
      · rw [z]; exact q.back s.pre (by rw [hh.len]; exact e)
      · rw [z]; exact q
    | false => rw [h2 e]; exact q
  | exc c fs M' =>
    intro ρ' dd vfs H' s ed q
    obtain ⟨ρ'', s2, h1, h2⟩ := settle_ok hh s (ltF M.length fs)
    refine h ρ'' dd vfs H' s2 ed ?_
    have q : Flds T ρ' H' fs vfs := q
    show Flds T ρ'' H' fs vfs
    cases e : ltF M.length fs with
    | true =>
      rcases h1 e with z | z
      · rw [z]; exact paired_back (g := T.nm) s.pre q (by rw [hh.len]; exact e)
      · rw [z]; exact q
    | false => rw [h2 e]; exact q
  | bad => exact h
end

/-! ### contracts -/
structure FnG (T : Tab) (k : Nat) (f : Addr) (fd : FuncData) (ps : List Str) (sp : Sp) : Prop where
  len : ∀ vs H Q E, sp vs H Q E → vs.length = ps.length
  run : ∀ (A : Around) (outer : List Env) (s : Shared) (H : Hp) (args : Args) (us : List Value) (vs : List V) (Q : VK) (E : XK), Room k A → A.guards = some [] → Env0 T.P T.w T.K T.mg T.base A outer s H → BindsTo s fd args (ps.zip us) → Vals vs us → sp vs H Q E →
    codeAny (model T.P T.w) A (.call (.ref f) args) (CR (CX T.P T.w) outer T.P T.w H s Q E) s
abbrev Fn := List D → Hh → Res D
def WE0 (E : XK) : WX := fun c d _ H => E c d H
def spF (T : Tab) (n : Nat) (F : Fn) : Sp := fun vs H Q E => vs.length = n ∧ ∃ ρ M ds, HeapR T ρ M H ∧ Rps T ρ H ds vs ∧ Den T (fun T => Rp T) (WE0 E) [] ρ H (F ds M) Q
structure FnA (T : Tab) (k : Nat) (f : Addr) (n : Nat) (F : Fn) : Prop where
  ex : ∃ fd ps, PySem.W.keepIn T.K (.ref f) = true ∧ Binds T.K fd ps [] ∧ ps.length = n ∧ FnG T (2 * k) f fd ps (spF T n F)
def startD (n : Nat) (ds : List D) : Ev := ds.map some ++ List.replicate (n - ds.length) none
def RS.res : RS → Res D
  | .nx _ M => .ok .non M
  | .ret d M => .ok d M
  | .exc c fs _ M => .exc c fs M
  | _ => .bad
/-- what a def does: its body m over n slots -/
noncomputable def runF (n : Nat) (m : SMs) : Fn := fun ds M => settleR M (m (startD n ds) M).res

section
variable {T : Tab}
theorem envR_start {ρ : List Addr} {H : Hp} {N : List Str} {ds : List D} {vs : List V} (t : Rps T ρ H ds vs) : EnvR T ρ H (startD N.length ds) (L2.start N vs) := by
  refine ⟨by unfold startD L2.start; simp [t.length], fun i d e => ?_⟩
  unfold startD at e
  unfold L2.start
  by_cases hi : i < ds.length
  · rw [List.getElem?_append_left (by simpa using hi), List.getElem?_map] at e
    cases e2 : ds[i]? with
    | none => rw [e2] at e; cases e
    | some z =>
      rw [e2] at e
      cases e
      obtain ⟨v, h1, h2⟩ := t.get e2
      refine ⟨v, ?_, h2⟩
      rw [List.getElem?_append_left (by rw [List.length_map, t.length]; exact hi), List.getElem?_map, h1]; rfl
  · rw [List.getElem?_append_right (by simpa using hi), List.getElem?_replicate] at e
    split at e <;> cases e
theorem good_cx {N : List Str} {sc : Scope} {k : Nat} {qual : Str} {f : Addr} {cd : Value} {A : Around} {outer : List Env} {s : Shared} {H : Hp} {E : XK} (hr : Room (2 * k + 1) (A.deeper (envOfC qual sc s.heap.objs.size f cd))) (hg : A.guards = some []) (nd : N.Nodup) :
    GoodS T N sc k true (cxOf (CX T.P T.w) T.P T.w T.K T.mg T.base N qual sc f cd A outer s H E) where
  hP := rfl
  hw := rfl
  hK := rfl
  hmg := rfl
  hb := rfl
  hN := rfl
  hsc := rfl
  calm := rfl
  un := by have := hr.un; show (A.deeper _).units + 200 < _; omega
  nd := nd
  room := fun _ => ⟨hr, hg⟩
  stk := rfl
  frm := rfl
  pas := passes_of (X := cxOf (CX T.P T.w) T.P T.w T.K T.mg T.base N qual sc f cd A outer s H E) rfl
  fnt := fun _ => rfl
/-- a def by its body -/
theorem fnG_of {k : Nat} {f : Addr} {name qual : Str} {params : Arguments} {body : List Stmt} {scope : Scope} {dV kV doc pm cdv ct oc : Value} {an od : Option Addr}
    {osl : Array (Option Value)} {N ps : List Str} {sp : Sp} (lk : T.K.lookup f = some ⟨oc, od, .func (PySem.W.fnOf name qual params body scope dV kV doc pm an cdv ct), osl⟩) (hcd : PySem.W.codeIn T.K cdv qual = true) (S : FnScope N ps scope)
    (len : ∀ vs H Q E, sp vs H Q E → vs.length = ps.length)
    (hbody : ∀ (A : Around) (outer : List Env) (s : Shared) (H : Hp) (vs : List V) (Q : VK) (E : XK), Room k (A.deeper (envOfC qual scope s.heap.objs.size f cdv)) → A.guards = some [] → sp vs H Q E →
      ∃ t, PSs (cxOf (CX T.P T.w) T.P T.w T.K T.mg T.base N qual scope f cdv A outer s H E) body t ∧ t { nx := fun _ H' => Q .non H', rt := Q } (L2.start N vs) H) :
    FnG T (k + 1) f (PySem.W.fnOf name qual params body scope dV kV doc pm an cdv ct) ps sp where
  len := len
  run := fun A outer s H args us vs Q E hr hgs e0 hb r hsp => by
    have hl := len _ _ _ _ hsp
    have KX : T.K.In s.heap := e0.mod.kin.keeps fun b o e => (e0.bs b o e).1
    have lim := e0.mod.nolimit.keeps fun b o e => (e0.bs b o e).1
    have kinds : ∀ y ∈ ps.zip us, scope.names.lookup y.1 = some .local ∨ (scope.names.lookup y.1 = some .cell ∧ ((cellsFrom (s.heap.objs.size + 1) scope.names []).lookup y.1).isSome = true) := by
      rintro ⟨n, v⟩ hy
      cases S.par n (List.of_mem_zip hy).1 with
      | inl q => exact .inl q
      | inr q => exact .inr ⟨q, PySem.W.cellsFrom_some _ _ _ (.inl q)⟩
    refine codeAny_call_function hr.depth (KX _ _ lk) rfl S.co S.gen rfl (PySem.W.codeRec_of KX hcd) (hb _ _ _ _ (wpAny_newFunctionEnv_cells S.kind kinds ?_))
    intro env he s1 x
    subst he
    refine ⟨lim.keeps x.toInCall.keep, codeAny_func ?_⟩
    obtain ⟨t, ht, hq⟩ := hbody A outer s H vs Q E (hr.deeper _) hgs hsp
    have I := inv_start (CX := CX T.P T.w) (N := N) (qual := qual) (f := f) (cd := cdv) (E := E) S hr.hd e0 hl r x
    refine wpAny_mono (ht.run [] s1 (L2.start N vs) H _ I hq) (fun fl s' hs => ?_) fun e s' hs => hs
    cases fl with
    | ret u =>
      obtain ⟨v, σ', H', J, rv, q⟩ := hs
      exact ⟨v, H', J.os, J.bare, J.base, J.hok, rv, q⟩
    | next =>
      obtain ⟨σ', H', J, q⟩ := hs
      exact ⟨.non, H', J.os, J.bare, J.base, J.hok, rfl, q⟩
    | brk => obtain ⟨_, _, _, q⟩ := hs; exact q.elim
    | cont => obtain ⟨_, _, _, q⟩ := hs; exact q.elim
/-- a def of the text keeps to what its body does -/
theorem fnA_of {k : Nat} {x qual : Str} {st : Stmt} {f : Addr} {fd : FuncData} {N ps : List Str} {m : SMs} (F : Fun T.K x qual st f fd) (S : FnScope N ps (defScope st)) (b : Binds T.K fd ps [])
    (hb : SB T N (defScope st) k true (defBody st) m) : FnA T (k + 1) f ps.length (runF N.length m) := by
  obtain ⟨oc, od, kV, doc, pm, an, cdv, ct, osl, rfl, lk, hcd⟩ := F.ex
  refine ⟨_, ps, F.kp, b, rfl, ?_⟩
  refine fnG_of (k := 2 * k + 1) lk hcd S (fun vs H Q E h => h.1) fun A outer s H vs Q E hr hg hsp => ?_
  obtain ⟨hl, ρ, M, ds, hh, t, hd⟩ := hsp
  have gd := good_cx (T := T) (k := k) (outer := outer) (H := H) (E := E) hr hg S.nd
  refine ⟨_, hb _ (WE0 E) gd (takes_of rfl rfl rfl rfl), ρ, startD N.length ds, M, envR_start t, hh, ?_⟩
  have hd := den_settle hh hd
  cases e : m (startD N.length ds) M with
  | nx env' M' => rw [e] at hd; exact fun ρ' σ' H' s q => hd ρ' .non H' s rp_non
  | ret d M' => rw [e] at hd; exact hd
  | exc c fs env' M' => rw [e] at hd; exact fun ρ' σ' dd vfs H' s q h1 h2 => hd ρ' dd vfs H' s h1 h2
  | brk _ _ => rw [e] at hd; exact hd.elim
  | cnt _ _ => rw [e] at hd; exact hd.elim
  | bad => rw [e] at hd; exact hd.elim
/-- no fuel: nothing is promised -/
theorem fnA_zero {x qual : Str} {st : Stmt} {f : Addr} {fd : FuncData} {ps : List Str} (F : Fun T.K x qual st f fd) (b : Binds T.K fd ps []) : FnA T 0 f ps.length (fun _ _ => .bad) := by
  refine ⟨fd, ps, F.kp, b, rfl, fun vs H Q E h => h.1, fun A outer s H args us vs Q E _ _ _ _ _ h => ?_⟩
  obtain ⟨_, _, _, _, _, _, z⟩ := h
  exact z.elim
end

/-! ### calls -/
def vCall (F : Fn) (a : SMo (List D)) : SMo D := fun env M => (a env M).bind fun ds M1 => F ds M1
section
variable {T : Tab} {N : List Str} {sc : Scope} {k : Nat} {cm : Bool} {e a b c o : Expr} {ma mb mc : SMo D} {es : List Expr} {mas : SMo (List D)} {pos p p' apos : Pos} {x : Str} {n : Nat} {F : Fn} {f : Addr}
/-- the callee runs -/
theorem runG {X : Cx} {W : WX} {pins : List (Addr × Obj)} {σ : L2.St} {H : Hp} {s : Shared} {Q : VK} {us : List Value} {vs : List V} {ds : List D} {ρ : List Addr} {M : Hh} (G : FnA T k f n F) (gd : Good T N sc k true X) (tk : Takes X W)
    (I : Inv X pins σ H s) (r : Vals vs us) (hl : vs.length = n) (hh : HeapR T ρ M H) (t : Rps T ρ H ds vs) (h : Den T (fun T => Rp T) W σ ρ H (F ds M) Q) : wpAny (model X.prog X.w) X.A (call (.ref f) us) (EP X pins σ Q) X.xe s := by
  obtain ⟨fd, ps, hk, hb, hn, G⟩ := G.ex
  have e0 := I.env0
  rw [gd.hP, gd.hw, gd.hK, gd.hmg, gd.hb] at e0
  obtain ⟨rm, gu⟩ := gd.room rfl
  have hbt := hb s us (by rw [← gd.hK]; exact I.kIn) (by rw [List.append_nil, ← r.length, hl, hn])
  rw [List.append_nil] at hbt
  have sp : spF T n F vs H Q (WE W σ) := ⟨hl, ρ, M, ds, hh, t, h⟩
  have run := G.run X.A X.stack s H ⟨us, []⟩ us vs Q (WE W σ) (rm.mono (by omega)) gu e0 hbt r sp
  rw [gd.hP, gd.hw]
  refine wpAny_call (codeAny_mono run fun res s' hq => ?_)
  cases res with
  | error er =>
    have q : L2.CX X.prog X.w X.stack H s (WE W σ) er s' := by rw [gd.hP, gd.hw]; exact hq
    exact passAt tk σ pins H s er s' I q
  | ok fl =>
    cases fl with
    | ret u =>
      have q : CE X.stack X.prog X.w H s Q u s' := by rw [gd.hP, gd.hw]; exact hq
      exact I.after q
    | next => exact hq.elim
    | brk => exact hq.elim
    | cont => exact hq.elim
theorem vals_len {ρ : List Addr} {H : Hp} {ds : List D} {vs : List V} (t : Rps T ρ H ds vs) : vs.length = ds.length := t.length
/-- a call by the name of a def; the number of arguments is as it should be -/
def vCallN (n : Nat) (F : Fn) (a : SMo (List D)) : SMo D := fun env M => (a env M).bind fun ds M1 => if ds.length = n then F ds M1 else .bad
theorem se_call (G : FnA T k f n F) (hg : sc.names.lookup x = some .globalImplicit) (hm : T.mg x = some (.ref f)) (ha : SAs T N sc k true (e :: es) mas) (hdb : (x == ("__debug__" : Str)) = false)
    (he : ∀ env, starEach (e :: es) env = (false, eval e env) :: starEach es env := by intro _; rfl) (hpl : ∀ env, (backTo pos (starEach es env)).any (·.1) = false := by intro _; rfl) : SE T N sc k true (.Call (.Name x p) (e :: es) [] pos) (vCallN n F mas) := fun X W gd tk => by
  refine ⟨fun pins s σ H Q I h => ?_⟩
  obtain ⟨ρ, env, M, hev, hh, hd⟩ := h
  obtain ⟨fd, ps, hk, hb, hn, G'⟩ := G.ex
  refine wpAny_Call_Name_kw (ld_glob I (by show X.env.scope.names.lookup x = _; rw [gd.hsc]; exact hg) (by rw [gd.hmg]; exact hm) ?_ hdb)
  refine PySem.W.callWith_K (h₀ := X.base) I.ok.mod.kin (by rw [gd.hK]; exact hk) (thn ((ha X W gd tk).run pos pins s σ H _ I ⟨ρ, env, M, hev, hh, Den.bind hd⟩) ?_) (he _) (hpl _)
  rintro us s1 ⟨vs, H1, I1, r, ρ1, M1, ds, s1', t, q⟩
  refine ⟨I1.kIn, ?_⟩
  split at q
  · rename_i hl
    exact runG G gd tk I1 r (t.length.trans hl) s1'.hr t q
  · exact q.elim
theorem se_call0 (G : FnA T k f 0 F) (hg : sc.names.lookup x = some .globalImplicit) (hm : T.mg x = some (.ref f)) (hdb : (x == ("__debug__" : Str)) = false) : SE T N sc k true (.Call (.Name x p) [] [] pos) (vCallN 0 F vNil) := fun X W gd tk => by
  refine ⟨fun pins s σ H Q I h => ?_⟩
  obtain ⟨ρ, env, M, hev, hh, hd⟩ := h
  obtain ⟨fd, ps, hk, hb, hn, G'⟩ := G.ex
  refine wpAny_Call_Name_kw (ld_glob I (by show X.env.scope.names.lookup x = _; rw [gd.hsc]; exact hg) (by rw [gd.hmg]; exact hm) ?_ hdb)
  exact PySem.W.callWith_K0 I.kIn (by rw [gd.hK]; exact hk) (runG (us := []) G gd tk I .nil rfl hh Rps.nil hd)
/-- a call of a def that a name of the def holds -/
def vCallV (i : Nat) (ar : Nat → Option Nat) (F : Nat → Fn) (a : SMo (List D)) : SMo D := fun env M => match env[i]? with
  | some (some (.fn g)) => match ar g with
    | some n => (a env M).bind fun ds M1 => if ds.length = n then F g ds M1 else .bad
    | none => .bad
  | _ => .bad
theorem se_callv (i : Nat) {ar : Nat → Option Nat} {F : Nat → Fn} (G : ∀ g n, ar g = some n → FnA T k (T.adr g) n (F g)) (hN : N[i]? = some x) (hv : Vis sc x) (ha : SAs T N sc k true (e :: es) mas) (hdb : (x == ("__debug__" : Str)) = false) (hcd : (x == ("__classdict__" : Str)) = false)
    (he : ∀ env, starEach (e :: es) env = (false, eval e env) :: starEach es env := by intro _; rfl) (hpl : ∀ env, (backTo pos (starEach es env)).any (·.1) = false := by intro _; rfl) : SE T N sc k true (.Call (.Name x p) (e :: es) [] pos) (vCallV i ar F mas) := fun X W gd tk => by
  refine ⟨fun pins s σ H Q I h => ?_⟩
  obtain ⟨ρ, env, M, hev, hh, hd⟩ := h
  unfold vCallV at hd
  split at hd
  · rename_i g eg
    split at hd
    · rename_i n en
      obtain ⟨v, ev, rv⟩ := hev.at_ _ _ eg
      rw [Rp] at rv
      subst rv
      obtain ⟨fd, ps, hk, hb, hn, G'⟩ := (G g n en).ex
      refine wpAny_Call_Name_kw (thn ((pe_var (X := X) (pos := p) (i := i) (by rw [gd.hN]; exact hN) (by rw [gd.hsc]; exact hv) hdb hcd).run pins s σ H (fun v H1 => v = .ref (T.adr g) ∧ H1 = H) I ⟨_, ev, rfl, rfl⟩) fun u s1 ⟨v, H1, I1, r1, q1⟩ => ?_)
      obtain ⟨rfl, rfl⟩ := q1
      cases r1
      refine PySem.W.callWith_K (h₀ := X.base) I.ok.mod.kin (by rw [gd.hK]; exact hk) (thn ((ha X W gd tk).run pos pins s1 σ _ _ I1 ⟨ρ, env, M, hev, hh, Den.bind hd⟩) ?_) (he _) (hpl _)
      rintro us s2 ⟨vs, H2, I2, r, ρ1, M1, ds, s1', t, q⟩
      refine ⟨I2.kIn, ?_⟩
      split at q
      · rename_i hl
        exact runG (G g n en) gd tk I2 r (t.length.trans hl) s1'.hr t q
      · exact q.elim
    · exact hd.elim
  · exact hd.elim

/-! ### own classes: attributes, methods, making -/
theorem flds_get {ρ : List Addr} {H : Hp} {fs : List (Nat × D)} {vfs : List (Str × V)} {j : Nat} {d : D} (h : Flds T ρ H fs vfs) (e : fs.lookup j = some d) : ∃ v, vfs.lookup (T.nm j) = some v ∧ Rp T ρ H d v := by
  unfold Flds at h
  induction h with
  | nil => cases e
  | @cons p q l1 l2 h t ih =>
    obtain ⟨pn, pd⟩ := p
    obtain ⟨qn, qv⟩ := q
    obtain ⟨h1, h2⟩ := h
    simp only [List.lookup_cons] at e ⊢
    cases e1 : j == pn with
    | true =>
      rw [e1] at e; cases e
      have : j = pn := eq_of_beq e1
      have e2 : (T.nm j == qn) = true := beq_iff_eq.mpr (by rw [this]; exact h1)
      rw [e2]
      exact ⟨qv, rfl, h2⟩
    | false =>
      rw [e1] at e
      have e2 : (T.nm j == qn) = false := beq_eq_false_iff_ne.mpr fun z => by
        have : j = pn := T.nmi _ _ (z.trans h1.symm)
        rw [this] at e1; simp at e1
      rw [e2]
      exact ih e
theorem flds_none {ρ : List Addr} {H : Hp} {fs : List (Nat × D)} {vfs : List (Str × V)} {j : Nat} (h : Flds T ρ H fs vfs) (e : fs.lookup j = none) : vfs.lookup (T.nm j) = none := by
  unfold Flds at h
  induction h with
  | nil => rfl
  | @cons p q l1 l2 h t ih =>
    obtain ⟨pn, pd⟩ := p
    obtain ⟨qn, qv⟩ := q
    obtain ⟨h1, h2⟩ := h
    simp only [List.lookup_cons] at e ⊢
    cases e1 : j == pn with
    | true => rw [e1] at e; cases e
    | false =>
      rw [e1] at e
      have e2 : (T.nm j == qn) = false := beq_eq_false_iff_ne.mpr fun z => by
        have : j = pn := T.nmi _ _ (z.trans h1.symm)
        rw [this] at e1; simp at e1
      rw [e2]
      exact ih e
def putN (j : Nat) (d : D) : List (Nat × D) → List (Nat × D)
  | [] => [(j, d)]
  | (i, x) :: r => if i = j then (i, d) :: r else (i, x) :: putN j d r
theorem flds_put {ρ : List Addr} {H : Hp} {fs : List (Nat × D)} {vfs : List (Str × V)} {j : Nat} {d : D} {v : V} (h : Flds T ρ H fs vfs) (r : Rp T ρ H d v) : Flds T ρ H (putN j d fs) (putF (T.nm j) v vfs) := by
  unfold Flds at h ⊢
  induction h with
  | nil => exact .cons ⟨rfl, r⟩ .nil
  | @cons p q l1 l2 h t ih =>
    obtain ⟨pn, pd⟩ := p
    obtain ⟨qn, qv⟩ := q
    obtain ⟨h1, h2⟩ := h
    show Paired _ (if pn = j then (pn, d) :: l1 else (pn, pd) :: putN j d l1) (if qn = T.nm j then (qn, v) :: l2 else (qn, qv) :: putF (T.nm j) v l2)
    by_cases e : pn = j
    · rw [if_pos e, if_pos (show qn = T.nm j from h1.symm.trans (congrArg T.nm e))]
      exact .cons ⟨h1, r⟩ t
    · rw [if_neg e, if_neg (fun z : qn = T.nm j => e (T.nmi _ _ (h1.trans z)))]
      exact .cons ⟨h1, h2⟩ ih
theorem flds_len {ρ : List Addr} {H : Hp} {fs : List (Nat × D)} {vfs : List (Str × V)} (h : Flds T ρ H fs vfs) : fs.length = vfs.length := Paired.length h
/-- what of the class c is asked where the attribute j is read or stored: the class's own facts -/
structure ClsF (T : Tab) (c : Nat) (j : Nat) : Prop where
  cl : Cls T.K (T.adr c)
  no : NoAttr T.K (T.adr c) (T.nm j)
/-- e.f: cs: the classes that may stand there -/
def getFld (cs : List Nat) (j : Nat) (d : D) (M : Hh) : Option D := match d with
  | .loc l => match M[l]? with
    | some (.ins c fs) => if c ∈ cs then fs.lookup j else none
    | _ => none
  | _ => none
def vFld (cs : List Nat) (j : Nat) (a : SMo D) : SMo D := fun env M => (a env M).bind fun x M1 => match getFld cs j x M1 with
  | some d => .ok d M1
  | none => .bad
theorem se_fld (cs : List Nat) (j : Nat) {fn : Str} (hf : T.nm j = fn) (hc : ∀ c ∈ cs, ClsF T c j) (ha : SE T N sc k cm a ma) (hb : ∀ env, attributeBase a fn env (eval a env) = eval a env := by intro _; rfl) : SE T N sc k cm (.Attribute a fn pos) (vFld cs j ma) := fun X W gd tk => by
  refine PE.imp (pe_fld (ha X W gd tk) (hb _)) fun σ H Q h => ?_
  obtain ⟨ρ, env, M, hev, hh, hd⟩ := h
  refine ⟨ρ, env, M, hev, hh, Den.mono (Den.bind hd) fun v H1 ⟨ρ1, M1, d, s1, r1, q1⟩ => ?_⟩
  cases e1 : getFld cs j d M1 with
  | none => rw [e1] at q1; exact q1.elim
  | some z =>
    rw [e1] at q1
    unfold getFld at e1
    split at e1
    · split at e1
      · rename_i l c fs em
        split at e1
        · rename_i hm
          obtain ⟨ad, rfl, ea, dx, vfs, h1, h2⟩ := s1.hr.at_ r1 em
          obtain ⟨w, h3, h4⟩ := flds_get h2 e1
          rw [hf] at h3
          refine ⟨ad, T.adr c, dx, vfs, w, rfl, h1, by rw [gd.hK]; exact (hc c hm).cl, by rw [gd.hK, ← hf]; exact (hc c hm).no, h3, q1 ρ1 w H1 (Stp.refl s1.hr) h4⟩
        · cases e1
      · cases e1
    · cases e1
def setFld (cs : List Nat) (j : Nat) (o d : D) (M : Hh) : Option Hh := match o with
  | .loc l => match M[l]? with
    | some (.ins c fs) => if c ∈ cs ∧ fs.length < 900 then some (M.set l (.ins c (putN j d fs))) else none
    | _ => none
  | _ => none
/-- e.f = value -/
def sFld (cs : List Nat) (j : Nat) (o v : SMo D) : SMs := fun env M => (v env M).st env fun d M1 => (o env M1).st env fun x M2 => match setFld cs j x d M2 with
  | some M3 => .nx env M3
  | none => .bad
theorem setFld_ok {cs : List Nat} {j : Nat} {ρ : List Addr} {H : Hp} {M M3 : Hh} {x d : D} {v w : V} (hc : ∀ c ∈ cs, ClsF T c j) (hh : HeapR T ρ M H) (r : Rp T ρ H x v) (rd : Rp T ρ H d w) (e1 : setFld cs j x d M = some M3) :
    ∃ ad c dx vfs, v = .ref ad ∧ H ad = some (.ins (T.adr c) dx vfs) ∧ ClsF T c j ∧ vfs.length < 900 ∧ Stp T ρ H ρ M3 (upd H ad (.ins (T.adr c) dx (putF (T.nm j) w vfs))) := by
  unfold setFld at e1
  split at e1
  · split at e1
    · rename_i l c fs em
      split at e1
      · rename_i hm
        cases e1
        obtain ⟨ad, rfl, ea, dx, vfs, h1, h2⟩ := hh.at_ r em
        refine ⟨ad, c, dx, vfs, rfl, h1, hc c hm.1, by rw [← flds_len h2]; exact hm.2, Stp.put hh ea h1 id ⟨dx, _, upd_same, (flds_put h2 rd).mono List.prefix_rfl (Ext.put h1 id)⟩⟩
      · cases e1
    · cases e1
  · cases e1
theorem ss_fld (cs : List Nat) (j : Nat) {fn : Str} (hf : T.nm j = fn) (hc : ∀ c ∈ cs, ClsF T c j) (ho : SE T N sc k cm o ma) (hv : SE T N sc k cm e mb) (hs : ∀ env, swapsWith e (some (.Attribute o fn p')) pos.line env = pure false := by intro _; rfl) : SS T N sc k cm (.Assign [.Attribute o fn p'] e pos) (sFld cs j ma mb) := fun X W gd tk => by
  refine PS.imp (ps_fld (ho X W gd.toGood tk) (hv X W gd.toGood tk) (hs _)) fun D σ H h => ?_
  obtain ⟨ρ, env, M, he, hh, hd⟩ := h
  refine ⟨ρ, env, M, he, hh, Den.mono (DenS.st he hd) fun v H1 ⟨ρ1, M1, d, s1, r1, q1⟩ => ?_⟩
  refine ⟨ρ1, env, M1, he.stp s1, s1.hr, Den.mono (DenS.st (he.stp s1) q1) fun w H2 ⟨ρ2, M2, x, s2, r2, q2⟩ => ?_⟩
  cases e1 : setFld cs j x d M2 with
  | none => rw [e1] at q2; exact q2.elim
  | some M3 =>
    rw [e1] at q2
    obtain ⟨ad, c, dx, vfs, rfl, h1, h2, h3, st⟩ := setFld_ok hc s2.hr r2 (r1.stp s2) e1
    rw [hf] at st
    exact ⟨ad, T.adr c, dx, vfs, rfl, h1, by rw [gd.hK]; exact h2.cl, by rw [gd.hK, ← hf]; exact h2.no, by omega, q2 ρ2 σ _ st (((he.stp s1).stp s2).stp st)⟩
/-- e.f op= value -/
def clsOf (x : D) (M : Hh) : Nat := match x with
  | .loc l => match M[l]? with
    | some (.ins c _) => c
    | _ => 0
  | _ => 0
def sFldAug (cs : List Nat) (j : Nat) (f : Op2) (o v : SMo D) : SMs := fun env M => (o env M).st env fun x M1 => match getFld cs j x M1 with
  | some d => (v env M1).st env fun y M2 => match f d y M2 with
    | some (z, M3) => match setFld [clsOf x M1] j x z M3 with
      | some M4 => .nx env M4
      | none => .bad
    | none => .bad
  | none => .bad
theorem ss_fldaug (cs : List Nat) (j : Nat) {fn : Str} {op : Operator} {f : Op2} (hf : T.nm j = fn) (hc : ∀ c ∈ cs, ClsF T c j) (ho : SE T N sc k cm o ma) (hv : SE T N sc k cm e mb) (hop : OpG T N sc k cm (inplaceOp op) f) : SS T N sc k cm (.AugAssign (.Attribute o fn p') op e pos) (sFldAug cs j f ma mb) := fun X W gd tk => by
  refine PS.imp (ps_fldaug (rd := rOp T f) (ho X W gd.toGood tk) (hv X W gd.toGood tk) (hop X gd.toGood)) fun D σ H h => ?_
  obtain ⟨ρ, env, M, he, hh, hd⟩ := h
  refine ⟨ρ, env, M, he, hh, Den.mono (DenS.st he hd) fun v H1 ⟨ρ1, M1, x, s1, r1, q1⟩ => ?_⟩
  cases e1 : getFld cs j x M1 with
  | none => rw [e1] at q1; exact q1.elim
  | some d =>
    rw [e1] at q1
    unfold getFld at e1
    split at e1
    · split at e1
      · rename_i l oo c fs em
        split at e1
        · rename_i hm
          have ec : clsOf (.loc l) M1 = c := by simp only [clsOf, em]
          rw [ec] at q1
          obtain ⟨ad, rfl, ea, dx, vfs, h1, h2⟩ := s1.hr.at_ r1 em
          obtain ⟨w, h3, h4⟩ := flds_get h2 e1
          rw [hf] at h3
          refine ⟨ad, T.adr c, dx, vfs, w, rfl, h1, by rw [gd.hK]; exact (hc c hm).cl, by rw [gd.hK, ← hf]; exact (hc c hm).no, h3, ?_⟩
          refine ⟨ρ1, env, M1, he.stp s1, s1.hr, Den.mono (DenS.st (he.stp s1) q1) fun y H2 ⟨ρ2, M2, yd, s2, r2, q2⟩ => ?_⟩
          split at q2
          · rename_i z M3 ez
            refine ⟨ρ2, M2, d, yd, z, M3, s2.hr, h4.stp s2, r2, ez, fun ρ3 v3 H3 s3 r3 => ?_⟩
            split at q2
            · rename_i M4 e4
              have q2 := DenS.lift s3 q2
              obtain ⟨ad', c', dx', vfs', e5, h5, h6, h7, st⟩ := setFld_ok (cs := [c]) (fun c' hc' => by rw [List.mem_singleton.mp hc']; exact hc c hm) s3.hr ((r1.stp s2).stp s3) r3 e4
              cases e5
              rw [hf] at st
              have ecc : T.adr c' = T.adr c := by
                have e4 : (match M3[l]? with | some (.ins c' fs) => if c' ∈ [c] ∧ fs.length < 900 then some (M3.set l (.ins c' (putN j z fs))) else none | _ => none) = some M4 := e4
                split at e4
                · rename_i oo' c'' fs' em'
                  split at e4
                  · rename_i hm'
                    obtain ⟨ad2, e6, ea2, dx2, vfs2, h8, h9⟩ := s3.hr.at_ ((r1.stp s2).stp s3) em'
                    cases e6
                    rw [h8] at h5
                    have := Option.some.inj h5
                    injection this with q _ _
                    rw [← q, List.mem_singleton.mp hm'.1]
                  · cases e4
                · cases e4
              rw [ecc] at h5 st
              exact ⟨dx', vfs', h5, by omega, q2 ρ3 σ _ st ((((he.stp s1).stp s2).stp s3).stp st)⟩
            · exact q2.elim
          · exact q2.elim
        · cases e1
      · cases e1
    · cases e1
/-- o.m(e, ..): c the class that stands there, j its method's number -/
def vMeth (c j n : Nat) (F : Fn) (o : SMo D) (a : SMo (List D)) : SMo D := fun env M => (o env M).bind fun x M1 => match x with
  | .loc l => match M1[l]? with
    | some (.ins c' fs) => if c' = c ∧ fs.lookup j = none then (a env M1).bind fun ds M2 => if ds.length + 1 = n then F (.loc l :: ds) M2 else .bad else .bad
    | _ => .bad
  | _ => .bad
theorem se_meth (c j : Nat) {pl : Env → Sem Bool} {m : Str} (hj : T.nm j = m) (hcl : Cls T.K (T.adr c)) (hm : Meth T.K (T.adr c) m f) (G : FnA T k f n F) (ho : SE T N sc k true o ma) (ha : SAs T N sc k true (e :: es) mas)
    (hst : ∀ env, starEach (e :: es) env = (false, eval e env) :: starEach es env := by intro _; rfl) (hpl : ∀ env, (backTo pos (starEach es env)).any (·.1) = false := by intro _; rfl)
    (ht : ∀ env, eval (.Call (.Attribute o m apos) (e :: es) [] pos) env = (do
      let ov ← eval o env
      standAt apos.atName
      let (f, first) ← holding [ov] (getMethod ov m (pl env))
      callWith pos f first (backTo pos (starEach (e :: es) env)) (backToKw pos (keywordEach [] env))) := by intro _; rfl) :
    SE T N sc k true (.Call (.Attribute o m apos) (e :: es) [] pos) (vMeth c j n F ma mas) := fun X W gd tk => by
  refine ⟨fun pins s σ H Q I h => ?_⟩
  obtain ⟨ρ, env, M, hev, hh, hd⟩ := h
  obtain ⟨fd, ps, hk, hb, hn, G'⟩ := G.ex
  refine PySem.W.methodCall_KW (pl := pl X.env) (thn ((ho X W gd tk).run pins s σ H _ I ⟨ρ, env, M, hev, hh, Den.bind hd⟩) ?_) (ht _)
  rintro u s1 ⟨v, H1, I1, rv, ρ1, M1, x, st1, rx, q⟩
  cases x with
  | loc l =>
    simp only at q
    split at q
    · rename_i c' fs em
      split at q
      · rename_i hc
        obtain ⟨rfl, hno⟩ := hc
        obtain ⟨ad, rfl, ea, dx, vfs, h1, h2⟩ := st1.hr.at_ rx em
        obtain rfl : u = Value.ref ad := rv
        have hl := flds_none h2 hno
        rw [hj] at hl
        refine getmeth_ok I1 h1 (by rw [gd.hK]; exact hcl) (by rw [gd.hK]; exact hm) hl ?_
        refine PySem.W.callWith_K (first := [.ref ad]) (h₀ := X.base) I.ok.mod.kin (by rw [gd.hK]; exact hm.kp) (thn ((ha X W gd tk).run pos pins s1 σ H1 _ I1 ⟨ρ1, env, M1, hev.stp st1, st1.hr, Den.bind q⟩) ?_) (hst _) (hpl _)
        rintro us s2 ⟨vs, H2, I2, r, ρ2, M2, ds, st2, t, q2⟩
        refine ⟨I2.kIn, ?_⟩
        split at q2
        · rename_i hl2
          exact runG (us := .ref ad :: us) (vs := .ref ad :: vs) G gd tk I2 (.cons rfl r) (by rw [List.length_cons, t.length]; exact hl2) st2.hr (Rps.cons (rx.stp st2) t) q2
        · exact q2.elim
      · exact q.elim
    · exact q.elim
  | _ => exact q.elim
theorem se_meth0 (c j : Nat) {pl : Env → Sem Bool} {m : Str} (hj : T.nm j = m) (hcl : Cls T.K (T.adr c)) (hm : Meth T.K (T.adr c) m f) (G : FnA T k f n F) (ho : SE T N sc k true o ma)
    (ht : ∀ env, eval (.Call (.Attribute o m apos) [] [] pos) env = (do
      let ov ← eval o env
      standAt apos.atName
      let (f, first) ← holding [ov] (getMethod ov m (pl env))
      callWith pos f first (backTo pos (starEach [] env)) (backToKw pos (keywordEach [] env))) := by intro _; rfl) :
    SE T N sc k true (.Call (.Attribute o m apos) [] [] pos) (vMeth c j n F ma vNil) := fun X W gd tk => by
  refine ⟨fun pins s σ H Q I h => ?_⟩
  obtain ⟨ρ, env, M, hev, hh, hd⟩ := h
  obtain ⟨fd, ps, hk, hb, hn, G'⟩ := G.ex
  refine PySem.W.methodCall_KW (pl := pl X.env) (thn ((ho X W gd tk).run pins s σ H _ I ⟨ρ, env, M, hev, hh, Den.bind hd⟩) ?_) (ht _)
  rintro u s1 ⟨v, H1, I1, rv, ρ1, M1, x, st1, rx, q⟩
  cases x with
  | loc l =>
    simp only at q
    split at q
    · rename_i c' fs em
      split at q
      · rename_i hc
        obtain ⟨rfl, hno⟩ := hc
        obtain ⟨ad, rfl, ea, dx, vfs, h1, h2⟩ := st1.hr.at_ rx em
        obtain rfl : u = Value.ref ad := rv
        have hl := flds_none h2 hno
        rw [hj] at hl
        refine getmeth_ok I1 h1 (by rw [gd.hK]; exact hcl) (by rw [gd.hK]; exact hm) hl ?_
        have q : Den T _ W σ ρ1 H1 (if ([] : List D).length + 1 = n then F (.loc l :: []) M1 else .bad) Q := q
        split at q
        · rename_i hl2
          exact PySem.W.callWith_K0 (first := [.ref ad]) I1.kIn (by rw [gd.hK]; exact hm.kp) (runG (us := [.ref ad]) (vs := [.ref ad]) G gd tk I1 (.cons rfl .nil) hl2 st1.hr (Rps.one rx) q)
        · exact q.elim
      · exact q.elim
    · exact q.elim
  | _ => exact q.elim
/-- C(e, ..) -/
def vMake (c n : Nat) (F : Fn) (a : SMo (List D)) : SMo D := fun env M => (a env M).bind fun ds M1 => if ds.length + 1 = n then (F (.loc M1.length :: ds) (M1 ++ [.ins c []])).bind fun r M2 => match r with
  | .non => .ok (.loc M1.length) M2
  | _ => .bad else .bad
theorem se_make (c : Nat) (G : FnA T k f n F) (Mk0 : Mk T.K (T.adr c) f) (hg : sc.names.lookup x = some .globalImplicit) (hm : T.mg x = some (.ref (T.adr c))) (ha : SAs T N sc k true (e :: es) mas) (hdb : (x == ("__debug__" : Str)) = false)
    (he : ∀ env, starEach (e :: es) env = (false, eval e env) :: starEach es env := by intro _; rfl) (hpl : ∀ env, (backTo pos (starEach es env)).any (·.1) = false := by intro _; rfl) : SE T N sc k true (.Call (.Name x p) (e :: es) [] pos) (vMake c n F mas) := fun X W gd tk => by
  refine ⟨fun pins s σ H Q I h => ?_⟩
  obtain ⟨ρ, env, M, hev, hh, hd⟩ := h
  obtain ⟨fd, ps, hk, hb, hn, G'⟩ := G.ex
  refine wpAny_Call_Name_kw (ld_glob I (by show X.env.scope.names.lookup x = _; rw [gd.hsc]; exact hg) (by rw [gd.hmg]; exact hm) ?_ hdb)
  refine PySem.W.callWith_K (h₀ := X.base) I.ok.mod.kin (by rw [gd.hK]; exact Mk0.kp) (thn ((ha X W gd tk).run pos pins s σ H _ I ⟨ρ, env, M, hev, hh, Den.bind hd⟩) ?_) (he _) (hpl _)
  rintro us s1 ⟨vs, H1, I1, r, ρ1, M1, ds, st1, t, q⟩
  refine ⟨I1.kIn, ?_⟩
  split at q
  · rename_i hl
    have nx : H1 (s1.heap.objs.size + 1) = none := I1.hok.fresh (Nat.le_succ _)
    have nd : H1 s1.heap.objs.size = none := I1.hok.fresh (Nat.le_refl _)
    have ne : s1.heap.objs.size ≠ s1.heap.objs.size + 1 := Nat.ne_of_lt (Nat.lt_succ_self _)
    have I2 := Inv.made (C := T.adr c) I1
    have sA := Stp.side (u := .own (s1.heap.objs.size + 1)) st1.hr nd
    have sB := Stp.alloc (p := s1.heap.objs.size + 1) (u := .ins (T.adr c) s1.heap.objs.size []) (o := .ins c []) sA.hr (by rw [upd_ne (Ne.symm ne)]; exact nx) fun pf => ⟨_, [], upd_same, .nil⟩
    have sC := sA.trans sB
    have self : Rp T (ρ1 ++ [s1.heap.objs.size + 1]) (upd (upd H1 s1.heap.objs.size (.own (s1.heap.objs.size + 1))) (s1.heap.objs.size + 1) (.ins (T.adr c) s1.heap.objs.size [])) (.loc M1.length) (.ref (s1.heap.objs.size + 1)) := loc_new st1.hr
    have q2 := Den.bind (R := fun T => Rp T) (Den.lift sC q)
    have r2 : Vals (V.ref (s1.heap.objs.size + 1) :: vs) (Value.ref (s1.heap.objs.size + 1) :: us) := .cons rfl r
    have hl2 : (V.ref (s1.heap.objs.size + 1) :: vs).length = n := by rw [List.length_cons, t.length]; exact hl
    have e0 := I2.env0.make (T.adr c) us []
    rw [gd.hP, gd.hw, gd.hK, gd.hmg, gd.hb] at e0
    obtain ⟨rm, gu⟩ := gd.room rfl
    have hbt := hb { s1 with heap := (s1.heap.push PySem.W.emptyDict).push (PySem.W.instObj (T.adr c) s1.heap.objs.size) } (Value.ref (s1.heap.objs.size + 1) :: us) (by have := I2.kIn; rw [gd.hK] at this; exact this) (by rw [List.append_nil, ← r2.length, hl2, hn])
    rw [List.append_nil] at hbt
    generalize hQ : (fun (v : V) (H1_1 : Hp) => ∃ ρ1_1 M1_1 d, Stp T (ρ1 ++ [s1.heap.objs.size + 1]) (upd (upd H1 s1.heap.objs.size (HO.own (s1.heap.objs.size + 1))) (s1.heap.objs.size + 1) (HO.ins (T.adr c) s1.heap.objs.size [])) ρ1_1 M1_1 H1_1 ∧
        Rp T ρ1_1 H1_1 d v ∧ Den T (fun T => Rp T) W σ ρ1_1 H1_1 (match d with | .non => Res.ok (.loc (List.length M1)) M1_1 | _ => Res.bad) Q) = QQ at q2
    have sp : spF T n F (V.ref (s1.heap.objs.size + 1) :: vs) (upd (upd H1 s1.heap.objs.size (HO.own (s1.heap.objs.size + 1))) (s1.heap.objs.size + 1) (HO.ins (T.adr c) s1.heap.objs.size [])) QQ (WE W σ) := ⟨hl2, ρ1 ++ [s1.heap.objs.size + 1], M1 ++ [MO.ins c []], D.loc M1.length :: ds, sC.hr, Rps.cons self (t.stp sC), q2⟩
    subst hQ
    have run := G'.run (X.A.under (.builtin "type.__call__" ⟨.ref (T.adr c) :: us, []⟩)) X.stack { s1 with heap := (s1.heap.push PySem.W.emptyDict).push (PySem.W.instObj (T.adr c) s1.heap.objs.size) } _ ⟨Value.ref (s1.heap.objs.size + 1) :: us, []⟩ _ _ _ (WE W σ) (rm.make (T.adr c) us []) (by
      have : (X.A.under (.builtin "type.__call__" ⟨.ref (T.adr c) :: us, []⟩)).guards = pushGuards (Code.guards (.builtin "type.__call__" ⟨.ref (T.adr c) :: us, []⟩)) X.A.guards := rfl
      rw [this, gu]
      show pushGuards (if Code.isGuard _ then _ else []) _ = _
      rw [if_neg (by show ¬ (guardIds.contains "type.__call__" = true); decide +kernel)]
      rfl) e0 hbt r2 sp
    rw [← gd.hP, ← gd.hw] at run
    refine wpAny_call (make_map (f := f) I1.kIn (by rw [gd.hK]; exact Mk0.makes) (by rw [gd.hK]; exact Mk0.init) (by rw [gd.hK]; exact beq_iff_eq.mp Mk0.fn) (codeAny_mono run fun res s' hq => ?_))
    cases res with
    | error er =>
      exact passAt tk σ pins _ _ er s' I2 hq
    | ok fl =>
      cases fl with
      | ret u =>
        have q : CE X.stack X.prog X.w _ _ _ u s' := hq
        obtain ⟨v, H', I3, rv, ρ3, M3, d3, st3, r3, q3⟩ := I2.after q
        cases d3 with
        | non =>
          have r3 : Rp T ρ3 H' .non v := r3
          rw [rp_non_inv r3] at rv
          exact ⟨rv, ⟨.ref (s1.heap.objs.size + 1), H', I3, rfl, q3 ρ3 (.ref (s1.heap.objs.size + 1)) H' (Stp.refl st3.hr) (self.stp st3)⟩⟩
        | _ => exact q3.elim
      | next => exact hq.elim
      | brk => exact hq.elim
      | cont => exact hq.elim
  · exact q.elim
end
end Gm

set_option Elab.async false
set_option linter.all false
set_option maxRecDepth 100000
set_option autoImplicit false
/-! Gi6: try with any number of clauses, with or without names -/
namespace Gm
open PySem PySem.Spec PyProof.Rows L2

/-- an exception of this state has come down in the frame that catches it: B the ground -/
structure Down (X : Cx) (pins : List (Addr × Obj)) (σ : L2.St) (H : Hp) (a : Addr) (cls : Value) (d : Option Addr) (B : Heap) (s : Shared) : Prop where
  inv : Inv X pins σ H s
  sky : HandSPX.FlyingZ B (X.env :: X.outer) a (Zc cls d) s.heap
  nL : a ≠ X.env.locals
  nF : a ∉ X.fs
  na : H a = none
  again : ∀ h', HandSPX.FlyingZ B (X.env :: X.outer) a (Zc cls d) h' → s.heap.UpToSlots h' → Inv X pins σ H { s with heap := h' }
  up : ∀ h', HandSPX.HeldZ B (X.env :: X.outer) a (Zc cls d) X.env.locals h' → s.heap.UpToSlots h' → ∀ W : WX, W cls d σ H → XE X W (.ref a) { s with heap := h' }

abbrev HdT := Value × Option Nat × (Addr → Value → Option Addr → TS)
/-- the ends of a suite whose clause names slot i: the name is gone behind it -/
def endsAs (D : Ends) (i : Nat) : Ends := { nx := fun σ H => D.nx (σ.set i none) H, rt := D.rt, bk := fun σ H => D.bk (σ.set i none) H, ct := fun σ H => D.ct (σ.set i none) H }
def wHs (K : PySem.W.Frag) (Wout : WX) (D : Ends) : List HdT → WX
  | [] => Wout
  | (c, none, ts) :: r => fun cls d σ H => ∃ b, PySem.W.exmOne K cls c = some b ∧ (b = true → ∀ a, H a = none → ts a cls d D σ H) ∧ (b = false → wHs K Wout D r cls d σ H)
  | (c, some i, ts) :: r => fun cls d σ H => ∃ b, PySem.W.exmOne K cls c = some b ∧ (b = true → ∀ a, H a = none → ts a cls d (endsAs D i) (σ.set i (some (.ref a))) H) ∧ (b = false → wHs K Wout D r cls d σ H)
inductive HsOk (X : Cx) : List ExceptHandler → List HdT → Prop
  | nil : HsOk X [] []
  | bare {x : Str} {c : Value} {ts : Addr → Value → Option Addr → TS} {b₀ : Stmt} {suite : List Stmt} {np pos' : Pos} {hds : List ExceptHandler} {l : List HdT} (hc : Names X x c)
      (hsu : ∀ (a : Addr) (oe : Obj) (cls : Value) (d : Option Addr) (pn : List (Addr × Obj)), Zc cls d oe → (∃ vs, oe.data = .fields vs) → PSs (X.suite a ((a, oe) :: pn)) (b₀ :: suite) (ts a cls d)) (r : HsOk X hds l) :
      HsOk X (.ExceptHandler (some (.Name x np)) none (b₀ :: suite) pos' :: hds) ((c, none, ts) :: l)
  | named {x n : Str} {c : Value} {i : Nat} {ts : Addr → Value → Option Addr → TS} {b₀ : Stmt} {suite : List Stmt} {np pos' : Pos} {hds : List ExceptHandler} {l : List HdT} (hc : Names X x c) (hi : X.N[i]? = some n) (hl : X.env.kindOf n = some .local)
      (hsu : ∀ (a : Addr) (oe : Obj) (cls : Value) (d : Option Addr) (pn : List (Addr × Obj)), Zc cls d oe → (∃ vs, oe.data = .fields vs) → PSs (X.suite a ((a, oe) :: pn)) (b₀ :: suite) (ts a cls d)) (r : HsOk X hds l) :
      HsOk X (.ExceptHandler (some (.Name x np)) (some n) (b₀ :: suite) pos' :: hds) ((c, some i, ts) :: l)

section
variable {X : Cx} {pins : List (Addr × Obj)} {σ : L2.St} {H : Hp} {a : Addr} {cls : Value} {d : Option Addr} {B : Heap} {s : Shared} {D : Ends} {Wout : WX} {hds : List ExceptHandler} {l : List HdT}
theorem Down.seen (dn : Down X pins σ H a cls d B s) : ∃ oe vs, s.heap.get? a = some oe ∧ Zc cls d oe ∧ oe.data = .fields vs := dn.sky.there
/-- what a clause's class is, asked in the air of the exception -/
theorem Down.asks (dn : Down X pins σ H a cls d B s) {x : Str} {c : Value} {b : Bool} {np : Pos} {Q : Bool → Shared → Prop} {E : Value → Shared → Prop} (hc : Names X x c) (e : PySem.W.exmOne X.K cls c = some b) (q : Q b s) :
    wpAny (model X.prog X.w) (X.A.mark (some (.ref a))) (eval (.Name x np) X.env) (fun v s1 => wpAny (model X.prog X.w) (X.A.mark (some (.ref a))) (excMatches (.ref a) v) Q E s1) E s := by
  obtain ⟨oe, vs, h1, h2, h3⟩ := dn.seen
  have S := dn.inv.suite h1 h3 dn.na dn.nL dn.nF
  have ty : PySem.W.Looks (model X.prog X.w) s.heap (typeOf (.ref a)) cls := fun A Q E s k q => wpAny_typeOf_ref (k _ _ h1) (by rw [h2.1]; exact q)
  have lm := PySem.W.exm_one (M := model X.prog X.w) dn.inv.kIn ty e
  obtain ⟨g1, g2, g3⟩ := hc
  rcases g3 with m | ⟨m, v, ne⟩
  · exact ld_glob (X := X.suite a ((a, oe) :: (X.pn ++ pins))) S g1 m (lm.here q) g2
  · exact ld_blt (X := X.suite a ((a, oe) :: (X.pn ++ pins))) S g1 m v (lm.here q) ne g2
/-- the clauses, one after the other -/
theorem Down.clauses (hf : X.env.frame = some X.env.locals) (hN : X.N.Nodup) (tk : Takes X Wout) (dn : Down X pins σ H a cls d B s) (hs : HsOk X hds l) (w : wHs X.K Wout D l cls d σ H) :
    wpAny (model X.prog X.w) X.A (handleBy (.ref a) X.env hds) (L2.SP X pins D) X.xe s := by
  have ok := dn.inv.ok
  induction hs with
  | nil =>
    refine wpAny_handleBy_nil ?_
    obtain ⟨_, _, _, oe, vs, Tb, oT, ts', he, _, hd, h1, _⟩ := id dn.sky
    have fly : wpAny (model X.prog X.w) X.A (setFlight (.ref a) X.env.frame) (fun _ s4 => wpAny (model X.prog X.w) X.A (throw (.ref a) : Sem Flow) (L2.SP X pins D) X.xe s4) X.xe s := by
      rw [hf]
      exact HandSPX.setFlight_upZ dn.sky fun h4 hh4 up4 => wpAny_throw (tk _ _ (dn.up h4 hh4 up4 Wout w))
    unfold PySem.passOn
    refine wpAny_bind (wpAny_field he hd h1 ?_)
    have nz : ¬ ((Value.ref Tb == Value.none) = true) := by simp
    rw [if_neg nz]
    first
      | exact wpAny_bind (wpAny_pure (wpAny_bind fly))
      | exact wpAny_bind fly
  | bare hc hsu r ih =>
    obtain ⟨b, e1, yes, no⟩ := w
    refine wpAny_handleBy_cons (codeAny_handlers_test ?_) (by intro q; cases q)
    refine dn.asks hc e1 ?_
    cases b with
    | false => exact ih (no rfl)
    | true =>
      refine codeAny_handlers_suite (HandSPX.lands_againZ dn.sky fun h4 fl4 up4 => ?_)
      have J4 := dn.again h4 fl4 up4
      obtain ⟨oe4, vs4, he4, hz4, hd4⟩ := fl4.there
      have S4 := J4.suite he4 hd4 dn.na dn.nL dn.nF
      refine wpAny_mono ((hsu a oe4 cls d (X.pn ++ pins) hz4 ⟨_, hd4⟩).run [] _ _ H _ S4 (yes rfl a dn.na)) (fun f s6 q => ?_) fun _ _ z => z.elim
      rcases f with _ | _ | _ | _
      all_goals first
        | (obtain ⟨σ6, H6, S6, q6⟩ := q; exact ⟨σ6, H6, S6.unsuite ok, q6⟩)
        | (obtain ⟨v6, σ6, H6, S6, r6, q6⟩ := q; exact ⟨v6, σ6, H6, S6.unsuite ok, r6, q6⟩)
  | @named x n c i ts b₀ suite np pos' hds l hc hi hl hsu r ih =>
    obtain ⟨b, e1, yes, no⟩ := w
    refine wpAny_handleBy_cons (codeAny_handlers_test ?_) (by intro q; cases q)
    refine dn.asks hc e1 ?_
    cases b with
    | false => exact ih (no rfl)
    | true =>
      refine codeAny_handlers_suite_as (HandSPX.lands_againZ dn.sky fun h4 fl4 up4 => ?_)
      have J4 := dn.again h4 fl4 up4
      obtain ⟨oe4, vs4, he4, hz4, hd4⟩ := fl4.there
      have S4 := J4.suite he4 hd4 dn.na dn.nL dn.nF
      refine store_ok (X := X.suite a ((a, oe4) :: (X.pn ++ pins))) (v := .ref a) S4 hN hi (.inl hl) rfl (fun s5 S5 => ?_) (.inr hl)
      refine wpAny_mono ((hsu a oe4 cls d (X.pn ++ pins) hz4 ⟨_, hd4⟩).run [] s5 _ H _ S5 (yes rfl a dn.na)) (fun f s6 q => ?_) fun _ _ z => z.elim
      have gone : ∀ {σ6 : L2.St} {H6 : Hp} {Q : Shared → Prop}, Inv (X.suite a ((a, oe4) :: (X.pn ++ pins))) [] σ6 H6 s6 → (∀ s7, Inv X pins (σ6.set i none) H6 s7 → Q s7) →
          wpAny (model X.prog X.w) X.A (do bindName X.env n .none; unbindBehindTheSuite X.env n pos') (fun _ s7 => Q s7) X.xe s6 := fun S6 hq => gone_ok (S6.unsuite ok) hN hi hl hq
      rcases f with _ | _ | _ | _
      all_goals first
        | (obtain ⟨σ6, H6, S6, q6⟩ := q; exact gone S6 fun s7 J7 => ⟨_, H6, J7, q6⟩)
        | (obtain ⟨v6, σ6, H6, S6, r6, q6⟩ := q; exact gone S6 fun s7 J7 => ⟨v6, _, H6, J7, r6, q6⟩)
theorem ps_try_hs {body : List Stmt} {h₀ : ExceptHandler} {pos : Pos} {tb : WX → TS} (hs : X.stack = X.env :: X.outer) (hf : X.env.frame = some X.env.locals) (hN : X.N.Nodup) (tk : Takes X Wout)
    (hb : ∀ (W : WX) (pn : List (Addr × Obj)) (xe : Value → Shared → Prop), Takes (X.tr pn xe) W → PassesOwn (model X.prog X.w) X.A X.env xe → PSs (X.tr pn xe) body (tb W))
    (hh : HsOk X (h₀ :: hds) l) : PS X (.Try body (h₀ :: hds) [] [] pos) (fun D σ H => tb (wHs X.K Wout D l) D σ H) := by
  refine ⟨fun pins s σ H D I h => ?_⟩
  have ok := I.ok
  have hfr : X.A.frames = some (X.env :: X.outer) := by rw [ok.frames, hs]
  refine wpAny_Try_except ?_
  have run := (hb (wHs X.K Wout D l) (X.pn ++ pins) (fun e s₁ => wpAny (model X.prog X.w) X.A (noteFrame e X.env) (fun _ s₂ => wpAny (model X.prog X.w) X.A (setFlight e none) (fun _ s₃ =>
    wpAny (model X.prog X.w) X.A (handleBy e X.env (h₀ :: hds)) (L2.SP X pins D) X.xe s₃) X.xe s₂) X.xe s₁) ?_ PassesOwn.looking).run [] s σ H D (I.toTry _) h
  · refine wpAny_mono run (fun f s1 q => ?_) fun e s1 he => he
    rcases f with _ | _ | _ | _
    · obtain ⟨σ', H', J', q⟩ := q
      exact wpAny_execs_nil ⟨σ', H', J'.ofTry ok, q⟩
    all_goals first
      | (obtain ⟨σ', H', J', q⟩ := q; exact ⟨σ', H', J'.ofTry ok, q⟩)
      | (obtain ⟨v, σ', H', J', r, q⟩ := q; exact ⟨v, σ', H', J'.ofTry ok, r, q⟩)
  · rintro u s' ⟨a, B, sI, pins', σ', H', cls, d, rfl, J', nb, up, sky, na, os, ag, w⟩
    have J : Inv X pins σ' H' sI := J'.ofTry ok
    have sky' : Sky B (X.env :: X.outer) a (Zc cls d) X.env.locals s'.heap := by rw [← hs]; exact sky
    show wpAny (model X.prog X.w) X.A (noteFrame (.ref a) X.env) _ _ _
    refine Sky.land Zc.steady hfr hf sky' fun h3 fl3 up3 => ?_
    obtain ⟨oe3, vs3, he3, hz3, hd3⟩ := fl3.there
    have nfr : a ∉ frs (X.env :: X.outer) := fun hm => by
      obtain ⟨_, o', e', hnf⟩ := fl3.2.2.1.mem hm
      rw [he3] at e'; cases e'
      exact hnf _ hd3
    refine Down.clauses (B := B) hf hN tk ⟨J.landed nb fl3.1 (up.trans up3) os ag, fl3, fun z => ?_, fun z => ?_, na, fun h' f u => ?_, fun h' f u W q => ?_⟩ hh w
    · exact nfr (List.mem_filterMap.mpr ⟨X.env, List.mem_cons_self, by rw [hf, z]⟩)
    · obtain ⟨e, he, q⟩ := List.mem_filterMap.mp z
      exact nfr (List.mem_filterMap.mpr ⟨e, List.mem_cons_of_mem _ he, q⟩)
    · exact J.landed (s' := { s' with heap := h' }) nb f.1 ((up.trans up3).trans u) os ag
    · exact ⟨a, B, sI, pins, σ', H', cls, d, rfl, J, nb, (up.trans up3).trans u, .inr (.inr (by rw [hs]; exact f)), na, os, ag, q⟩
end

/-! ### the same by results -/
/-- an except clause: which classes it takes; the slot of its name; what its suite returns of the exception (its class, its fields) -/
structure Hd where
  mt : Nat → Option Bool
  slot : Option Nat
  su : Nat → List (Nat × D) → SMo D
def unsl (o : Option Nat) (env : Ev) : Ev := match o with
  | some i => env.set i none
  | none => env
def slotOk (o : Option Nat) (env : Ev) : Bool := match o with
  | some i => decide (i < env.length)
  | none => true
def handleD : List Hd → Nat → List (Nat × D) → SMs
  | [], c, fs, env, M => .exc c fs env M
  | h :: r, c, fs, env, M => match h.mt c with
    | some true => if slotOk h.slot env then match h.su c fs (unsl h.slot env) M with
      | .ok d M' => .ret d M'
      | _ => .bad else .bad
    | some false => handleD r c fs env M
    | none => .bad
def sTry (b : SMs) (hs : List Hd) : SMs := fun env M => match b env M with
  | .exc c fs env' M' => handleD hs c fs env' M'
  | r => r
/-- an expression of a suite: i: the slot that holds the exception, if any -/
def tX (T : Tab) (i : Option Nat) (a : Addr) (cls : Value) (d : Option Addr) (m : Nat → List (Nat × D) → SMo D) : TE := fun σ H Q => (∀ j, i = some j → σ[j]? = some (some (.ref a))) ∧ ∃ ρ env M c fs dd vfs, cls = .ref (T.adr c) ∧ d = some dd ∧ H dd = some (.xd vfs) ∧ Flds T ρ H fs vfs ∧ EnvR T ρ H env σ ∧ HeapR T ρ M H ∧
  Den T (fun T => Rp T) (fun _ _ _ _ => False) σ ρ H (m c fs env M) Q
def tXA (T : Tab) (i : Option Nat) (a : Addr) (cls : Value) (d : Option Addr) (m : Nat → List (Nat × D) → SMo (List D)) : TA := fun σ H Q => (∀ j, i = some j → σ[j]? = some (some (.ref a))) ∧ ∃ ρ env M c fs dd vfs, cls = .ref (T.adr c) ∧ d = some dd ∧ H dd = some (.xd vfs) ∧ Flds T ρ H fs vfs ∧ EnvR T ρ H env σ ∧ HeapR T ρ M H ∧
  Den T (fun T => Rps T) (fun _ _ _ _ => False) σ ρ H (m c fs env M) Q
def SX (T : Tab) (N : List Str) (sc : Scope) (k : Nat) (i : Option Nat) (e : Expr) (m : Nat → List (Nat × D) → SMo D) : Prop := ∀ X a oe cls d pn, Good T N sc k true X → Zc cls d oe → (∃ vs, oe.data = .fields vs) → PE (X.suite a ((a, oe) :: pn)) e (tX T i a cls d m)
def SXA (T : Tab) (N : List Str) (sc : Scope) (k : Nat) (i : Option Nat) (e : List Expr) (m : Nat → List (Nat × D) → SMo (List D)) : Prop := ∀ X a oe cls d pn, Good T N sc k true X → Zc cls d oe → (∃ vs, oe.data = .fields vs) → PA (X.suite a ((a, oe) :: pn)) e (tXA T i a cls d m)
section
variable {T : Tab} {N : List Str} {sc : Scope} {k : Nat} {e : Expr} {ma : SMo D} {es : List Expr} {pos : Pos} {x : Str} {i : Option Nat} {m : Nat → List (Nat × D) → SMo D} {ms : Nat → List (Nat × D) → SMo (List D)}
theorem good_suite {X : Cx} {a : Addr} {pn : List (Addr × Obj)} (g : Good T N sc k true X) : Good T N sc k false (X.suite a pn) := ⟨g.hP, g.hw, g.hK, g.hmg, g.hb, g.hN, g.hsc, rfl, g.un, g.nd, fun z => by cases z⟩
theorem takes_no {X : Cx} : Takes X (fun _ _ _ _ => False) := takes_none5
/-- what does not speak of the exception -/
theorem sx_of (h : SE T N sc k false e ma) : SX T N sc k i e (fun _ _ => ma) := fun X a oe cls d pn g hz hf => by
  refine PE.imp (h _ _ (good_suite g) takes_no) fun σ H Q q => ?_
  obtain ⟨_, ρ, env, M, c, fs, dd, vfs, _, _, _, _, he, hh, hd⟩ := q
  exact ⟨ρ, env, M, he, hh, hd⟩
theorem sxa_nil : SXA T N sc k i [] (fun _ _ => vNil) := fun X a oe cls d pn g hz hf => by
  refine PA.imp (sa_nil (T := T) (N := N) (sc := sc) (k := k) (cm := false) _ _ (good_suite g) takes_no) fun σ H Q q => ?_
  obtain ⟨_, ρ, env, M, c, fs, dd, vfs, _, _, _, _, he, hh, hd⟩ := q
  exact ⟨ρ, env, M, he, hh, hd⟩
theorem sxa_cons (h : SX T N sc k i e m) (hr : SXA T N sc k i es ms) (hs : ∀ env, starEach (e :: es) env = (false, eval e env) :: starEach es env := by intro _; rfl) : SXA T N sc k i (e :: es) (fun c fs => vCons (m c fs) (ms c fs)) := fun X a oe cls d pn g hz hf => by
  refine PA.imp (pa_cons (h X a oe cls d pn g hz hf) (hr X a oe cls d pn g hz hf) (hs _)) fun σ H Q q => ?_
  obtain ⟨hi, ρ, env, M, c, fs, dd, vfs, e1, e2, e3, fl, he, hh, hd⟩ := q
  refine ⟨hi, ρ, env, M, c, fs, dd, vfs, e1, e2, e3, fl, he, hh, Den.mono (Den.bind hd) fun v H1 ⟨ρ1, M1, d1, s1, r1, q1⟩ => ?_⟩
  refine ⟨hi, ρ1, env, M1, c, fs, dd, vfs, e1, e2, s1.ext _ _ e3 trivial, fl.mono s1.pre s1.ext, he.stp s1, s1.hr, Den.mono (Den.bind q1) fun vs H2 ⟨ρ2, M2, ds, s2, r2, q2⟩ => ?_⟩
  exact q2 ρ2 (v :: vs) H2 (Stp.refl s2.hr) (Rps.cons (r1.stp s2) r2)
theorem sx_tup {kk : Nat} (h : SXA T N sc k i es ms) : SX T N sc k i (.Tuple es kk pos) (fun c fs => vTup (ms c fs)) := fun X a oe cls d pn g hz hf => by
  refine PE.imp (pe_tup (h X a oe cls d pn g hz hf)) fun σ H Q q => ?_
  obtain ⟨hi, ρ, env, M, c, fs, dd, vfs, e1, e2, e3, fl, he, hh, hd⟩ := q
  refine ⟨hi, ρ, env, M, c, fs, dd, vfs, e1, e2, e3, fl, he, hh, Den.mono (Den.bind hd) fun vs H1 ⟨ρ1, M1, ds, s1, r1, q1⟩ => ?_⟩
  split at q1
  · rename_i hl
    refine ⟨by rw [r1.length, sl_eq]; exact hl, fun p np => ?_⟩
    have st := Stp.side (u := .tup vs) s1.hr np
    exact q1 ρ1 _ _ st (rp_tup (SqT.of upd_same) (r1.stp st))
  · exact q1.elim
theorem sx_lst (h : SXA T N sc k i es ms) : SX T N sc k i (.List es pos) (fun c fs => vLst (ms c fs)) := fun X a oe cls d pn g hz hf => by
  refine PE.imp (pe_lst (h X a oe cls d pn g hz hf)) fun σ H Q q => ?_
  obtain ⟨hi, ρ, env, M, c, fs, dd, vfs, e1, e2, e3, fl, he, hh, hd⟩ := q
  refine ⟨hi, ρ, env, M, c, fs, dd, vfs, e1, e2, e3, fl, he, hh, Den.mono (Den.bind hd) fun vs H1 ⟨ρ1, M1, ds, s1, r1, q1⟩ => ?_⟩
  split at q1
  · rename_i hl
    refine ⟨by rw [r1.length, sl_eq]; exact hl, fun p np => ?_⟩
    have st := Stp.alloc (u := .lst vs) (o := .lst ds) s1.hr np fun pf => ⟨vs, upd_same, r1.mono pf (Ext.new np)⟩
    exact q1 _ _ _ st (loc_new s1.hr)
  · exact q1.elim
/-- e.f of the exception; cs: the classes it may be of -/
def vXf (cs : List Nat) (j : Nat) (c : Nat) (fs : List (Nat × D)) : SMo D := fun _ M => if c ∈ cs then match fs.lookup j with
  | some d => .ok d M
  | none => .bad else .bad
theorem sx_fld (cs : List Nat) (j ix : Nat) {fn : Str} {np : Pos} (hj : T.nm j = fn) (hc : ∀ c ∈ cs, XfC T.K (T.adr c) ∧ PySem.W.findIn T.K (.ref (T.adr c)) fn = some none) (hN : N[ix]? = some x) (hv : Vis sc x) (hd0 : (x == ("__debug__" : Str)) = false) (hcd : (x == ("__classdict__" : Str)) = false)
    (hb : ∀ env, attributeBase (.Name x np) fn env (eval (.Name x np) env) = eval (.Name x np) env := by intro _; rfl) : SX T N sc k (some ix) (.Attribute (.Name x np) fn pos) (vXf cs j) := fun X a oe cls d pn g hz hf => by
  refine ⟨fun pins s σ H Q I q => ?_⟩
  obtain ⟨hi, ρ, env, M, c, fs, dd, vfs, e1, e2, e3, fl, he, hh, hd⟩ := q
  unfold vXf at hd
  split at hd
  · rename_i hm
    split at hd
    · rename_i z ez
      obtain ⟨w, h1, h2⟩ := flds_get fl ez
      rw [hj] at h1
      subst e1
      have cf := hc c hm
      rw [← g.hK] at cf
      refine (pe_xf (X := X) (a := a) (oe := oe) (cls := .ref (T.adr c)) (d := d) (pn := pn) cf.1 cf.2 hz hf (pe_var (i := ix) (by show X.N[ix]? = _; rw [g.hN]; exact hN) (by show Vis X.env.scope x; rw [g.hsc]; exact hv) hd0 hcd) (hb _)).run pins s σ H Q I ?_
      exact ⟨.ref a, hi ix rfl, rfl, rfl, dd, vfs, w, e2, e3, h1, hd ρ w H (Stp.refl hh) h2⟩
    · exact hd.elim
  · exact hd.elim

/-- the clauses of a try, with what they do -/
inductive Hds (T : Tab) (N : List Str) (sc : Scope) (k : Nat) : List ExceptHandler → List Hd → Prop
  | nil : Hds T N sc k [] []
  | bare {hds : List ExceptHandler} {hs : List Hd} {cx : Nat} {mt : Nat → Option Bool} {xc : Str} {np pos' rp : Pos} {er : Expr} {m : Nat → List (Nat × D) → SMo D} (hg : sc.names.lookup xc = some .globalImplicit) (hdb : (xc == ("__debug__" : Str)) = false) (hm : T.mg xc = some (.ref (T.adr cx)))
      (he : ∀ c b, mt c = some b → PySem.W.exmOne T.K (.ref (T.adr c)) (.ref (T.adr cx)) = some b) (hx : SX T N sc k none er m) (r : Hds T N sc k hds hs) : Hds T N sc k (.ExceptHandler (some (.Name xc np)) none [.Return (some er) rp] pos' :: hds) (⟨mt, none, m⟩ :: hs)
  | named {hds : List ExceptHandler} {hs : List Hd} {cx i : Nat} {mt : Nat → Option Bool} {xc n : Str} {np pos' rp : Pos} {er : Expr} {m : Nat → List (Nat × D) → SMo D} (hg : sc.names.lookup xc = some .globalImplicit) (hdb : (xc == ("__debug__" : Str)) = false) (hm : T.mg xc = some (.ref (T.adr cx)))
      (he : ∀ c b, mt c = some b → PySem.W.exmOne T.K (.ref (T.adr c)) (.ref (T.adr cx)) = some b) (hi : N[i]? = some n) (hl : sc.names.lookup n = some .local) (hx : SX T N sc k (some i) er m) (r : Hds T N sc k hds hs) :
      Hds T N sc k (.ExceptHandler (some (.Name xc np)) (some n) [.Return (some er) rp] pos' :: hds) (⟨mt, some i, m⟩ :: hs)
/-- .. at a place -/
inductive HdsR (T : Tab) (K : PySem.W.Frag) : List Hd → List HdT → Prop
  | nil : HdsR T K [] []
  | cons {h : Hd} {hs : List Hd} {cx : Nat} {l : List HdT} (he : ∀ c b, h.mt c = some b → PySem.W.exmOne K (.ref (T.adr c)) (.ref (T.adr cx)) = some b) (r : HdsR T K hs l) : HdsR T K (h :: hs) ((.ref (T.adr cx), h.slot, fun a cls d => tRet (tX T h.slot a cls d h.su)) :: l)
theorem Hds.ok {hds : List ExceptHandler} {hs : List Hd} {X : Cx} (g : Good T N sc k true X) (h : Hds T N sc k hds hs) : ∃ l, HsOk X hds l ∧ HdsR T T.K hs l := by
  induction h with
  | nil => exact ⟨[], .nil, .nil⟩
  | @bare hds hs cx mt xc np pos' rp er m hg hdb hm he hx r ih =>
    obtain ⟨l, h1, h2⟩ := ih
    refine ⟨(.ref (T.adr cx), none, fun a cls d => tRet (tX T none a cls d m)) :: l, .bare (c := .ref (T.adr cx)) ⟨by show X.env.scope.names.lookup xc = _; rw [g.hsc]; exact hg, hdb, .inl (by rw [g.hmg]; exact hm)⟩ (fun a oe cls d pn hz hf => pss_one (ps_ret (hx X a oe cls d pn g hz hf))) h1, .cons (h := ⟨mt, none, m⟩) (cx := cx) he h2⟩
  | @named hds hs cx i mt xc n np pos' rp er m hg hdb hm he hi hl hx r ih =>
    obtain ⟨l, h1, h2⟩ := ih
    refine ⟨(.ref (T.adr cx), some i, fun a cls d => tRet (tX T (some i) a cls d m)) :: l, .named (c := .ref (T.adr cx)) (i := i) ⟨by show X.env.scope.names.lookup xc = _; rw [g.hsc]; exact hg, hdb, .inl (by rw [g.hmg]; exact hm)⟩ (by rw [g.hN]; exact hi) (by show X.env.scope.names.lookup n = _; rw [g.hsc]; exact hl)
      (fun a oe cls d pn hz hf => pss_one (ps_ret (hx X a oe cls d pn g hz hf))) h1, .cons (h := ⟨mt, some i, m⟩) (cx := cx) he h2⟩
theorem handle_ok {W : WX} {D : Ends} {hs : List Hd} {l : List HdT} (h : HdsR T T.K hs l) : ∀ {c : Nat} {fs : List (Nat × Gm.D)} {ρ : List Addr} {env : Ev} {M : Hh} {σ : L2.St} {H : Hp} {dd : Addr} {vfs : List (Str × V)}, EnvR T ρ H env σ → HeapR T ρ M H → H dd = some (.xd vfs) → Flds T ρ H fs vfs → DenS T W ρ H (handleD hs c fs env M) D →
    wHs T.K W D l (.ref (T.adr c)) (some dd) σ H := by
  induction h with
  | nil => intro c fs ρ env M σ H dd vfs he hh e3 fl hd; exact hd ρ σ dd vfs H (Stp.refl hh) he e3 fl
  | @cons h hs cx l hex r ih =>
    intro c fs ρ env M σ H dd vfs he hh e3 fl hd
    obtain ⟨mt, slot, su⟩ := h
    have hd : DenS T W ρ H (match mt c with | some true => if slotOk slot env then (match su c fs (unsl slot env) M with | .ok d M' => .ret d M' | _ => .bad) else .bad | some false => handleD hs c fs env M | none => .bad) D := hd
    cases em : mt c with
    | none => rw [em] at hd; exact hd.elim
    | some b =>
      rw [em] at hd
      have hb := hex c b em
      cases b with
      | false =>
        have no : ∀ {A : Prop}, (false = true) → A := fun z => by cases z
        cases slot with
        | none => exact ⟨false, hb, fun z => no z, fun _ => ih he hh e3 fl hd⟩
        | some i => exact ⟨false, hb, fun z => no z, fun _ => ih he hh e3 fl hd⟩
      | true =>
        have no : ∀ {A : Prop}, (true = false) → A := fun z => by cases z
        have hd : DenS T W ρ H (if slotOk slot env then (match su c fs (unsl slot env) M with | .ok d M' => .ret d M' | _ => .bad) else .bad) D := hd
        cases eo : slotOk slot env with
        | false => rw [eo, if_neg Bool.false_ne_true] at hd; exact hd.elim
        | true =>
        rw [eo, if_pos rfl] at hd
        have den : ∀ {σ' : L2.St}, EnvR T ρ H (unsl slot env) σ' → Den T (fun T => Rp T) (fun _ _ _ _ => False) σ' ρ H (su c fs (unsl slot env) M) D.rt := fun {σ'} he' => by
          cases es : su c fs (unsl slot env) M with
          | ok d M' => rw [es] at hd; exact hd
          | exc _ _ _ => rw [es] at hd; exact hd.elim
          | bad => rw [es] at hd; exact hd.elim
        cases slot with
        | none => exact ⟨true, hb, fun _ a ha => ⟨fun j hj => (by cases hj), ρ, env, M, c, fs, dd, vfs, rfl, rfl, e3, fl, he, hh, den he⟩, fun z => no z⟩
        | some i =>
          refine ⟨true, hb, fun _ a ha => ?_, fun z => no z⟩
          have he' := he.unset (i := i) (some (.ref a))
          refine ⟨fun j hj => ?_, ρ, env.set i none, M, c, fs, dd, vfs, rfl, rfl, e3, fl, he', hh, den he'⟩
          cases hj
          have hlt : i < σ.length := by rw [← he.len]; exact of_decide_eq_true eo
          rw [List.getElem?_set_self hlt]
theorem ss_try {body : List Stmt} {h₀ : ExceptHandler} {hds : List ExceptHandler} {hs : List Hd} {ms : SMs} (hb : SB T N sc k true body ms) (hh : Hds T N sc k (h₀ :: hds) hs) : SS T N sc k true (.Try body (h₀ :: hds) [] [] pos) (sTry ms hs) := fun X W g tk => by
  obtain ⟨l, h1, h2⟩ := hh.ok g.toGood
  refine PS.imp (ps_try_hs (X := X) (Wout := W) (l := l) (tb := fun W' => tS T W' ms) g.stk g.frm (by rw [g.hN]; exact g.nd) tk (fun W' pn xe tk' pas => hb (X.tr pn xe) W' ?_ tk') h1) fun D σ H q => ?_
  · exact { hP := g.hP, hw := g.hw, hK := g.hK, hmg := g.hmg, hb := g.hb, hN := g.hN, hsc := g.hsc, calm := g.calm, un := g.un, nd := g.nd, room := g.room, stk := g.stk, frm := g.frm, pas := pas, fnt := g.fnt }
  · obtain ⟨ρ, env, M, he, hhp, hd⟩ := q
    refine ⟨ρ, env, M, he, hhp, ?_⟩
    rw [g.hK]
    have hd : DenS T W ρ H (match ms env M with | .exc c fs env' M' => handleD hs c fs env' M' | r => r) D := hd
    cases e : ms env M with
    | exc c fs env' M' =>
      rw [e] at hd
      exact fun ρ' σ' dd vfs H' s' q1 q2 q3 => handle_ok h2 q1 s'.hr q2 q3 (DenS.lift s' hd)
    | nx _ _ => rw [e] at hd; exact hd
    | ret _ _ => rw [e] at hd; exact hd
    | brk _ _ => rw [e] at hd; exact hd
    | cnt _ _ => rw [e] at hd; exact hd
    | bad => rw [e] at hd; exact hd
end
end Gm

set_option Elab.async false
set_option linter.all false
set_option maxRecDepth 100000
set_option autoImplicit false
/-! Gi7: own errors over ValueError whose __init__ hands its arguments to super().__init__ and keeps them in fields: made and raised -/
namespace Gm
open PySem PySem.Spec PyProof.Rows L2

section
variable {P : Program} {w : World} {K : PySem.W.Frag} {mg : Str → Option Value} {base : Heap}
/-- the first statement of such an __init__, and the stores behind it -/
def errStores (sv : Str) : List (Str × Str × Pos × Pos × Pos × Pos) → List Stmt
  | [] => []
  | (f, x, p6, p7, p8, p9) :: r => .Assign [.Attribute (.Name sv p6) f p7] (.Name x p8) p9 :: errStores sv r
/-- what the top has written of the __init__ of such a class -/
structure ErrIn (P : Program) (K : PySem.W.Frag) (mg : Str → Option Value) (C fI : Addr) (qual sv : Str) (xs : List Str) (fs : List (Str × Str × Pos × Pos × Pos × Pos)) : Prop where
  ex : ∃ (name : Str) (params : Arguments) (body : List Stmt) (scope : Scope) (kV doc pm ct oc ccl cl : Value) (an od cdd cld : Option Addr) (osl ccs csl : Array (Option Value)) (cc cda : Addr) (vs : Array Value) (file : Str) (tf : Tok) (p0 p1 p2 p4 p5 : Pos) (as : List Expr) (ar : Arg),
    K.lookup fI = some ⟨oc, od, .func (PySem.W.ksFn name qual params body scope .none kV doc pm an (.ref cda) ct cc), osl⟩ ∧ PySem.W.codeIn K (.ref cda) qual = true ∧
    K.lookup cda = some ⟨ccl, cdd, .fields vs, ccs⟩ ∧ vs[2]? = some (.str file tf) ∧ ((P.main.file : Str) == file) = true ∧ K.lookup cc = some ⟨cl, cld, .cell (some (.ref C)), csl⟩ ∧
    body = .Expr (.Call (.Attribute (.Call (.Name "super" p0) [] [] p1) "__init__" p2) as [] p4) p5 :: errStores sv fs ∧ (∃ ps : List Pos, ps.length = xs.length ∧ as = List.zipWith Expr.Name xs ps) ∧
    (∀ env : Env, ∃ pl : Sem Bool, eval (.Call (.Attribute (.Call (.Name "super" p0) [] [] p1) "__init__" p2) as [] p4) env = (do
      let ov ← attributeBase (.Call (.Name "super" p0) [] [] p1) "__init__" env (eval (.Call (.Name "super" p0) [] [] p1) env)
      standAt p2.atName
      let (f, first) ← holding [ov] (getMethod ov "__init__" pl)
      callWith p4 f first (backTo p4 (starEach as env)) [])) ∧
    (params.posonlyargs ++ params.args).head? = some ar ∧ ar.arg = sv ∧
    (∀ us : List Value, us.length = (sv :: xs).length → bindArgs (PySem.W.ksFn name qual params body scope .none kV doc pm an (.ref cda) ct cc) ⟨us, []⟩ = pure ((sv :: xs).zip us)) ∧
    (∀ x ∈ scope.names, x.2 ≠ .cell) ∧ scope.isCoroutine = false ∧ scope.isGenerator = false ∧ scope.kind = .function ∧ (∀ x ∈ sv :: xs, scope.names.lookup x = some .local ∧ (x == ("__debug__" : Str)) = false) ∧
    scope.names.lookup ("super" : Str) = some .globalImplicit ∧ scope.names.lookup ("__class__" : Str) = some .free
  nd : (sv :: xs).Nodup
  few : xs.length ≤ 100
  sup : PySem.W.ks_superIn K C C "__init__" = some (some (.builtin "ValueError.__init__"))
  inB : PySem.W.subIn K (.ref C) (.type "ValueError") = some true
  inC : PySem.W.mroIn K C (.ref C) = some true
  nsup : mg "super" = none
  htop : (P.main.scope.names.lookup ("super" : Str)).isSome = false
  boot : bootBuiltins "super" = some (.type "super")
  opq : PySem.W.nsIn K PySem.cStatics "thirdparty.any" = some none
  inx : ∀ p ∈ fs, p.2.1 ∈ xs
  nof : ∀ p ∈ fs, PySem.W.findIn K (.ref C) p.1 = some none
  oex : OexC K C
  find : PySem.W.findIn K (.ref C) "__init__" = some (some (.ref fI))
  tI : PySem.W.typeIn K (.ref fI) = some (.type "function")
end
/-- what a parameter holds -/
def argV (xs : List Str) (us : List Value) (x : Str) : Option Value := (xs.zip us).lookup x
/-- the fields as stored -/
def errFs (xs : List Str) (us : List Value) (fs : List (Str × Str × Pos × Pos × Pos × Pos)) (m : Str → Option Value) : Str → Option Value := match fs with
  | [] => m
  | p :: r => errFs xs us r (fun y => if y = p.1 then argV xs us p.2.1 else m y)
theorem look_rev {xs : List Str} {us : List Value} (nd : xs.Nodup) (x : Str) : (xs.zip us).reverse.lookup x = (xs.zip us).lookup x := by
  induction xs generalizing us with
  | nil => simp
  | cons a r ih =>
    cases us with
    | nil => simp
    | cons u us =>
      rw [List.nodup_cons] at nd
      simp only [List.zip_cons_cons, List.reverse_cons]
      have app : ∀ (l : List (Str × Value)) (b : Str × Value), (l ++ [b]).lookup x = (l.lookup x).or ([b].lookup x) := by
        intro l b
        induction l with
        | nil => simp
        | cons c l ih2 =>
          obtain ⟨c1, c2⟩ := c
          simp only [List.cons_append, List.lookup]
          split
          · rfl
          · exact ih2
      rw [app, ih nd.2]
      by_cases h : x = a
      · subst h
        have : (r.zip us).lookup x = none := by
          cases e : (r.zip us).lookup x with
          | none => rfl
          | some v =>
            exfalso
            have key : ∀ {l : List (Str × Value)} {v : Value}, l.lookup x = some v → x ∈ l.map (·.1) := by
              intro l
              induction l with
              | nil => intro v h; cases h
              | cons c l ih3 =>
                intro v h
                obtain ⟨c1, c2⟩ := c
                simp only [List.lookup] at h
                split at h
                · rename_i hc
                  have : x = c1 := by simpa using hc
                  simp [this]
                · exact List.mem_cons_of_mem _ (ih3 h)
            have := key e
            obtain ⟨p, hp, rfl⟩ := List.mem_map.mp this
            exact nd.1 (List.of_mem_zip hp).1
        rw [this]
        simp [List.lookup]
      · have hb : (x == a) = false := by simpa using h
        simp [List.lookup, hb]
theorem zip_lookup {xs : List Str} {us : List Value} (hl : us.length = xs.length) {x : Str} (h : x ∈ xs) : ∃ v, (xs.zip us).lookup x = some v := by
  induction xs generalizing us with
  | nil => cases h
  | cons a r ih =>
    cases us with
    | nil => cases hl
    | cons u us =>
      simp only [List.zip_cons_cons, List.lookup]
      by_cases e : x = a
      · subst e; simp
      · have hb : (x == a) = false := by simpa using e
        rw [hb]
        exact ih (by simpa using hl) (by rcases List.mem_cons.mp h with h | h; exact absurd h e; exact h)

/-! ### its run -/
section
variable {P : Program} {w : World} {K : PySem.W.Frag} {mg : Str → Option Value} {base : Heap} {A : Around} {hp : Heap} {g : Array GenState} {d : Drawn} {t : Nat} {os : OsState} {C e u fI L : Addr} {us : List Value} {E : Value → Shared → Prop}
/-- the built-in __init__, bound, called -/
theorem mw_call {t0 : Addr} {Q : Value → Shared → Prop} (T : OexC K C) (X : K.In hp) (he : hp.get? e = some (PySem.HandSPX.excO C t0)) (hu : hp.get? u = some (PySem.W.kxs_mw "ValueError.__init__" e)) (hl : us.length ≤ sizeLine)
    (hq : ∀ h' t1, (∀ b o, b ≠ e → hp.get? b = some o → h'.get? b = some o) → h'.get? e = some (PySem.HandSPX.excO C t1) → Q .none ⟨h', g, d, t, os⟩) : wpAny (model P w) A (call (.ref u) us) Q E ⟨hp, g, d, t, os⟩ := by
  obtain ⟨nm, q, N, bs, bm, sn, sub, ab, col, dd, k0, k1, k2, k3, k5, hC, hbm⟩ := T.cls
  have FB := F.excBase_ValueError
  refine wpAny_call (codeAny_of_tree ?_)
  have go : wpAny (model P w) A.in1 (callAny (.ref u) ⟨us, []⟩) (fun fin s' => match fin with | .done (.ret v) => Q v s' | .done _ => False | .again c' => c'.quiet = true ∧ codeAny (model P w) A c' (fun r s' => match r with | .ok (.ret v) => Q v s' | .ok _ => False | .error e => E e s') s') E ⟨hp, g, d, t, os⟩ := by
    unfold callAny
    refine wpAny_bind (wpAny_load hu ?_)
    simp only [PySem.W.kxs_mw, show (Value.type "method-wrapper" == Value.type "method" || Value.type "method-wrapper" == Value.type "builtin_function_or_method" || Value.type "method-wrapper" == Value.type "method-wrapper") = true by decide, if_true]
    refine PySem.W.KFB.if_so (by decide) (wpAny_bind (PySem.W.check_bound_init FB.toExcCallFacts (X _ _ hC) he rfl (wpAny_bind (wpAny_pure (wpAny_pure ⟨plainId_quiet FB.init.plain _, codeAny_builtin FB.initEntry ?_⟩)))))
    exact PySem.W.exc_init_tree (cls := .ref C) (t0 := t0) (dv := none) (c2 := .none) (c3 := .none) (b4 := .bool false) he hl fun h' k e' _ => hq h' _ k e'
  refine wpAny_mono go (fun fin s' q => ?_) fun _ _ z => z
  rcases fin with (v | _ | _ | _) | c' <;> exact q
/-- an error that is being made: its dict's names -/
def ErrSt (e C : Addr) (od : Option Addr) (m : Str → Option Value) (nl : List Str) (h : Heap) : Prop :=
  (∃ t1 : Addr, h.get? e = some ({ cls := .ref C, dict := od, data := .fields #[.ref t1, .none, .none, .none, .bool false, .none] } : Obj)) ∧ Within m nl ∧ match od with
    | none => m = fun _ => none
    | some dx => h.Ns1 dx m ∧ e < dx
theorem err_set {od : Option Addr} {m : Str → Option Value} {nl : List Str} {f : Str} {v : Value} {Q : Unit → Shared → Prop} (T : OexC K C) (X : K.In hp) (S : ErrSt e C od m nl hp) (hz : nl.length ≤ 1000) (hno : PySem.W.findIn K (.ref C) f = some none)
    (hq : ∀ h' t' dx, ErrSt e C (some dx) (fun y => if y = f then some v else m y) (f :: nl) h' → (od = some dx ∨ hp.objs.size ≤ dx) → (∀ b o, b ≠ e → od ≠ some b → hp.get? b = some o → h'.get? b = some o) → Q () ⟨h', g, d, t', os⟩) :
    wpAny (model P w) A (setAttr (.ref e) f v) Q E ⟨hp, g, d, t, os⟩ := by
  obtain ⟨nm, q, N, bs, bm, sn, sub, ab, col, dd, k0, k1, k2, k3, k5, hC, hbm⟩ := T.cls
  have hcl : PySem.W.clsIn K C = some { name := nm, bases := bs, mro := .ref C :: bm, ns := N, qualname := q, hasDict := true, slotNames := sn, subclasses := sub, abstract := ab, collection := col, hasDel := false } := by unfold PySem.W.clsIn; rw [hC] <;> rfl
  have hm : PySem.HandSPX.refsVE (.ref C :: bm) = true := hbm
  obtain ⟨⟨t1, ho⟩, hw, hd⟩ := S
  cases od with
  | none =>
    refine PySem.W.set_plain X (ox := { cls := .ref C, dict := none, data := .fields #[.ref t1, .none, .none, .none, .bool false, .none] }) (od := none) ⟨ho, rfl, rfl, trivial⟩ T.sa ?_
    refine PySem.HandSPX.exc_osa X ho hcl hm rfl hno fun h' tk' dx k dn dne hx hn => ?_
    have hd : m = fun _ => none := hd
    subst hd
    exact hq h' tk' dx ⟨⟨t1, hx⟩, Within.cons f v hw, hn, Nat.lt_of_lt_of_le (Heap.lt_size ho) dn⟩ (.inr dn) fun b o hb _ => k b o hb
  | some dx =>
    obtain ⟨hns, hlt⟩ := hd
    obtain ⟨oD, _, _, hoD, _, _⟩ := hns.count hw
    refine PySem.W.set_plain X (ox := { cls := .ref C, dict := some dx, data := .fields #[.ref t1, .none, .none, .none, .bool false, .none] }) (od := some oD) ⟨ho, rfl, rfl, hoD⟩ T.sa ?_
    refine PySem.OEX.osa_old X ho hns hw hz hcl hm rfl hno fun h' tk' k hn => ?_
    exact hq h' tk' dx ⟨⟨t1, k _ _ (Nat.ne_of_lt hlt) ho⟩, Within.cons f v hw, hn, hlt⟩ (.inl rfl) fun b o _ hb => k b o fun z => hb (by rw [z])
/-- self.f = x, .. -/
theorem err_stores {c : Code} {env : Env} {sv : Str} {xs : List Str} {mB : Str → Option Value} (T : OexC K C) (hk : env.scope.kind = .function) (hloc : env.locals = L) (ls : ∀ x ∈ sv :: xs, env.kindOf x = some .local ∧ (x == ("__debug__" : Str)) = false) (bs : mB sv = some (.ref e)) (bx : ∀ x ∈ xs, ∃ v, argV xs us x = some v ∧ mB x = some v) :
    ∀ (fs : List (Str × Str × Pos × Pos × Pos × Pos)) (od : Option Addr) (m : Str → Option Value) (nl : List Str) (hp : Heap) (t : Nat) (Q : Flow → Shared → Prop), (∀ p ∈ fs, p.2.1 ∈ xs) → (∀ p ∈ fs, PySem.W.findIn K (.ref C) p.1 = some none) → K.In hp → (∀ b o, K.lookup b = some o → b < e) → ErrSt e C od m nl hp → hp.Ns L mB → L ≠ e → od ≠ some L →
    nl.length + fs.length ≤ 1000 → (∀ h' t' od', ErrSt e C od' (errFs xs us fs m) (fs.reverse.map (·.1) ++ nl) h' → (od.isSome = true ∨ fs ≠ [] → od'.isSome = true) → (∀ b o, b < e → hp.get? b = some o → h'.get? b = some o) → Q .next ⟨h', g, d, t', os⟩) →
    PySem.wpAt (model P w) A c (execs (errStores sv fs) env) Q E ⟨hp, g, d, t, os⟩
  | [], od, m, nl, hp, t, Q, _, _, X, hK, S, hn, hL, hL2, hz, hq => PySem.wpAt_of_wpAny (wpAny_execs_nil (hq hp t od S (fun z => z.elim id fun z => absurd rfl z) fun b o _ h => h))
  | (f, x, p6, p7, p8, p9) :: r, od, m, nl, hp, t, Q, hin, hno, X, hK, S, hn, hL, hL2, hz, hq => by
    have hn2 : hp.Ns env.locals mB := hloc ▸ hn
    have hx : x ∈ xs := hin _ List.mem_cons_self
    obtain ⟨v, hv, hv2⟩ := bx x hx
    refine PySem.ks_wpAt_execs_cons (PySem.ks_wpAt_Assign_Attr (PySem.wpAt_of_wpAny (wpAny_Name (wpAny_loadName_local hk (ls x (List.mem_cons_of_mem _ hx)).1 hn2 hv2 ?_) (ls x (List.mem_cons_of_mem _ hx)).2)) rfl)
    refine wpAny_Name (wpAny_loadName_local hk (ls sv List.mem_cons_self).1 hn2 bs ?_) (ls sv List.mem_cons_self).2
    refine err_set T X S (by simp only [List.length_cons] at hz; omega) (hno _ List.mem_cons_self) fun h' t' dx S' hdx k => ?_
    have hnl : h'.Ns L mB := by
      obtain ⟨o, es, ep, h1, h2⟩ := hn
      exact ⟨o, es, ep, k _ _ hL hL2 h1, h2⟩
    have hle : ∀ {b}, od = some b → e < b := fun {b} z => by subst z; exact S.2.2.2
    refine err_stores T hk hloc ls bs bx r (some dx) _ (f :: nl) h' t' Q (fun p hp => hin p (List.mem_cons_of_mem _ hp)) (fun p hp => hno p (List.mem_cons_of_mem _ hp)) ?_ hK S' hnl hL ?_ (by simp only [List.length_cons] at hz ⊢; omega) fun h2 t2 od2 S2 hs k2 => ?_
    · intro b o hb
      have lt := hK b o hb
      exact k b o (Nat.ne_of_lt lt) (fun z => absurd (hle z) (Nat.lt_asymm lt)) (X b o hb)
    · rcases hdx with z | z
      · rw [← z]; exact hL2
      · intro q
        have := Option.some.inj q
        have l := hn.lt
        rw [this] at z
        exact absurd l (Nat.not_lt.mpr z)
    · refine hq h2 t2 od2 (by simpa [errFs, hv] using S2) (fun _ => hs (.inl rfl)) fun b o hb h => k2 b o hb (k b o (Nat.ne_of_lt hb) (fun z => absurd (hle z) (Nat.lt_asymm hb)) h)
/-- names as arguments -/
theorem names_plain {env : Env} {pos : Pos} : ∀ (xs : List Str) (ps : List Pos), (backTo pos (starEach (List.zipWith Expr.Name xs ps) env)).any (·.1) = false
  | [], _ => rfl
  | _ :: _, [] => rfl
  | x :: xs, p :: ps => by
    show (false || (backTo pos (starEach (List.zipWith Expr.Name xs ps) env)).any (·.1)) = false
    rw [names_plain xs ps]; rfl
theorem names_run {M : Model} {env : Env} {pos : Pos} {m : Str → Option Value} {s : Shared} (hk : env.scope.kind = .function) (hn : s.heap.Ns env.locals m) : ∀ (xs : List Str) (ps : List Pos) (us : List Value) (Q : List Value → Shared → Prop), ps.length = xs.length → (∀ x ∈ xs, env.kindOf x = some .local ∧ (x == ("__debug__" : Str)) = false) →
    xs.map m = us.map some → Q us s → wpAny M A (spliced (backTo pos (starEach (List.zipWith Expr.Name xs ps) env))) Q E s
  | [], _, us, Q, _, _, hm, q => by
    cases us with
    | nil => exact spliced_none q
    | cons _ _ => cases hm
  | x :: xs, [], us, Q, hl, _, _, q => by cases hl
  | x :: xs, p :: ps, us, Q, hl, hx, hm, q => by
    cases us with
    | nil => cases hm
    | cons u us =>
      simp only [List.map_cons, List.cons.injEq] at hm
      refine spliced_more (wpAny_Name (wpAny_loadName_local hk (hx x List.mem_cons_self).1 hn hm.1 ?_) (hx x List.mem_cons_self).2)
      exact names_run hk hn xs ps us _ (by simpa using hl) (fun y hy => hx y (List.mem_cons_of_mem _ hy)) hm.2 q
/-- self.__init__(a, ..) of such a class -/
theorem err_init {qual sv : Str} {xs : List Str} {fs : List (Str × Str × Pos × Pos × Pos × Pos)} {t0 : Addr} {R : Result → Shared → Prop} (mod : Mod K mg base) (I : ErrIn P K mg C fI qual sv xs fs) (hbk : ∀ b o, base.get? b = some o → hp.get? b = some o) (hbe : base.objs.size ≤ e)
    (he : hp.get? e = some (PySem.HandSPX.excO C t0)) (hdep : A.depth < recursionLimit) (hus : us.length = xs.length) (hfs : fs.length ≤ 900)
    (hR : ∀ h' t' od, ErrSt e C od (errFs xs us fs fun _ => none) (fs.reverse.map (·.1)) h' → (fs ≠ [] → od.isSome = true) → (∀ b o, b < e → hp.get? b = some o → h'.get? b = some o) → R (.ok (.ret .none)) ⟨h', g, d, t', os⟩) :
    codeAny (model P w) A (.call (.ref fI) ⟨.ref e :: us, []⟩) R ⟨hp, g, d, t, os⟩ := by
  obtain ⟨name, params, body, scope, kV, doc, pm, ct, oc, ccl, cl, an, od, cdd, cld, osl, ccs, csl, cc, cda, vs, file, tf, p0, p1, p2, p4, p5, as, ar, lk, hcd, hcode, hvs, hfile, hcell, rfl, ⟨ps, hps, rfl⟩, hev, hhd, har, hbind, hnc, hco, hgen, hkd, hloc, hsu, hcl⟩ := I.ex
  have X0 : K.In hp := mod.kin.keeps hbk
  have hK : ∀ b o, K.lookup b = some o → b < e := fun b o z => Nat.lt_of_lt_of_le (Heap.lt_size (mod.kin b o z)) hbe
  have hl2 : (Value.ref e :: us).length = (sv :: xs).length := by simp [hus]
  have nd := I.nd
  refine PySem.ks_codeAny_call_defAt (fd := PySem.W.ksFn name qual params _ scope .none kV doc pm an (.ref cda) ct cc) (binds := (sv :: xs).zip (.ref e :: us)) hdep (X0 _ _ lk) rfl (mod.nolimit.keeps hbk) (PySem.W.codeRec_of X0 hcd) rfl (.of_eq (hbind _ hl2)) hnc (fun x hx => (hloc x.1 (List.of_mem_zip hx).1).1) (fun h0 hn0 k0 => ?_) hco hgen hkd
  have bk0 := fun b o z => k0 b o (hbk b o z)
  have X1 : K.In h0 := X0.keeps k0
  have hmB : ∀ x ∈ sv :: xs, ∃ v, ((sv :: xs).zip (Value.ref e :: us)).reverse.lookup x = some v ∧ ((sv :: xs).zip (Value.ref e :: us)).lookup x = some v := fun x hx => by
    obtain ⟨v, hv⟩ := zip_lookup hl2 hx
    exact ⟨v, by rw [look_rev nd]; exact hv, hv⟩
  have hself : ((sv :: xs).zip (Value.ref e :: us)).reverse.lookup sv = some (.ref e) := by rw [look_rev nd]; simp [List.lookup]
  have hx2 : ∀ x ∈ xs, ∃ v, argV xs us x = some v ∧ ((sv :: xs).zip (Value.ref e :: us)).reverse.lookup x = some v := fun x hx => by
    obtain ⟨v, hv⟩ := zip_lookup hus hx
    refine ⟨v, hv, ?_⟩
    rw [look_rev nd]
    have ne : x ≠ sv := fun z => by rw [z] at hx; exact (List.nodup_cons.mp nd).1 hx
    have hb : (x == sv) = false := by simpa using ne
    simp only [List.zip_cons_cons, List.lookup, hb]
    exact hv
  have he0 := k0 _ _ he
  have hLe : hp.objs.size ≠ e := fun z => absurd (Heap.lt_size he) (by rw [z]; exact Nat.lt_irrefl _)
  obtain ⟨mb, b1, b2⟩ := mod.blt
  obtain ⟨oL, esL, epL, hL1, hL2⟩ := id hn0
  have hi : interactive (PySem.W.ksEnv qual scope hp.objs.size fI (.ref cda) cc) = false := by
    show (scope.kind == .module && _) = false
    rw [hkd]; rfl
  obtain ⟨pl, hev⟩ := hev (PySem.W.ksEnv qual scope hp.objs.size fI (.ref cda) cc)
  refine PySem.ks_wpAt_execs_cons (PySem.ks_wpAt_Expr_any (PySem.ks_wpAt_MethodCall (pl := pl) ?_ hev) hi rfl)
  refine PySem.ks_wpAt_super_base (env := PySem.W.ksEnv qual scope hp.objs.size fI (.ref cda) cc) hsu hcl (by decide) rfl (X1 _ _ lk) rfl hhd rfl (X1 _ _ hcode) rfl hvs hfile I.htop ?_
  refine PySem.W.ks_loadName_global hkd hsu (Calls.loadGlobal_builtin (env := PySem.W.ksEnv qual scope hp.objs.size fI (.ref cda) cc) (mod.glob.keeps bk0) I.nsup (b1.keeps bk0) ((b2 _ (by decide)).trans I.boot) ⟨rfl, ?_⟩)
  refine wpAny_loadName_free hkd hcl rfl ⟨_, X1 _ _ hcell, rfl⟩ ?_
  rw [har]
  refine wpAny_loadName_local hkd (hloc sv List.mem_cons_self).1 hn0 hself ?_
  obtain ⟨nm, q, N, bs, bm, sn, sub, ab, col, dd, j0, j1, j2, j3, j5, hC, hbm⟩ := I.oex.cls
  have hcl2 : PySem.W.clsIn K C = some { name := nm, bases := bs, mro := .ref C :: bm, ns := N, qualname := q, hasDict := true, slotNames := sn, subclasses := sub, abstract := ab, collection := col, hasDel := false } := by unfold PySem.W.clsIn; rw [hC] <;> rfl
  refine PySem.ks_wpAny_isType_cls (X1 _ _ hC) rfl ⟨rfl, ?_⟩
  refine PySem.ks_wpAny_call_super (X1 _ _ hC) rfl he0 rfl (fun c z => by cases z) (PySem.W.looks_mroIn X1 I.inC) fun h1 hso k1 => ?_
  have X2 := X1.keeps k1
  have ceq := I.sup
  unfold PySem.W.ks_superIn at ceq
  rw [hcl2, Option.bind_some] at ceq
  have he1 := k1 _ _ he0
  have hin : PySem.W.InstAt h1 e (PySem.HandSPX.excO C t0) C none := ⟨he1, rfl, rfl, trivial⟩
  refine PySem.W.kxs_getMethod PySem.W.kxs_ValueError hso (PySem.W.looks_opaque X2 I.opq) (l₀ := .ref C :: bm) (fun A Q E s k q => wpAny_bind ((PySem.W.looks_clsIn X2 hcl2) A _ E s k (wpAny_pure q))) rfl X2 ceq (hin.type.andThen (PySem.W.looks_subIn X2 I.inB)) (Nat.ne_of_gt (hK _ _ hC)) (by decide) ?_
  have k2 : ∀ b o, h1.get? b = some o → (h1.push (PySem.W.kxs_mw "ValueError.__init__" e)).get? b = some o := fun b o z => Heap.get?_push_of_some _ z
  refine PySem.W.kxs_callWith (i := "ValueError.__init__") (x := e) (names_plain xs ps) (L2.FK.evalArgs_any (names_plain xs ps) ?_)
  have hn2 : (h1.push (PySem.W.kxs_mw "ValueError.__init__" e)).Ns hp.objs.size (fun x => ((sv :: xs).zip (Value.ref e :: us)).reverse.lookup x) := ⟨oL, esL, epL, k2 _ _ (k1 _ _ hL1), hL2⟩
  refine names_run (env := PySem.W.ksEnv qual scope hp.objs.size fI (.ref cda) cc) hkd hn2 xs ps us _ hps (fun x hx => hloc x (List.mem_cons_of_mem _ hx)) ?_ ⟨Heap.get?_push_at rfl rfl, ?_⟩
  · have key : ∀ (ys : List Str) (vs : List Value), ys.Nodup → vs.length = ys.length → ys.map (fun x => (ys.zip vs).lookup x) = vs.map some := by
      intro ys
      induction ys with
      | nil => intro vs _ hl; cases vs with
        | nil => rfl
        | cons _ _ => cases hl
      | cons y ys ih => intro vs hn hl; cases vs with
        | nil => cases hl
        | cons v vs =>
          rw [List.nodup_cons] at hn
          simp only [List.map_cons, List.zip_cons_cons, List.lookup, beq_self_eq_true, List.cons.injEq, true_and]
          rw [← ih vs hn.2 (by simpa using hl)]
          refine List.map_congr_left fun x hx => ?_
          have hb : (x == y) = false := by
            have : x ≠ y := fun z => hn.1 (z ▸ hx)
            simpa using this
          rw [hb]
    have := key (sv :: xs) (.ref e :: us) nd hl2
    simp only [List.map_cons, List.cons.injEq] at this
    rw [← this.2]
    exact List.map_congr_left fun x _ => look_rev nd x
  have X3 := X2.keeps k2
  refine mw_call I.oex X3 (k2 _ _ he1) (Heap.get?_push_at rfl rfl) (by show us.length ≤ sizeLine; rw [hus, sl_eq]; have := I.few; omega) fun h2 t1 k3 he2 => ?_
  have kf : ∀ b o, b ≠ e → h0.get? b = some o → h2.get? b = some o := fun b o hb z => k3 b o hb (k2 _ _ (k1 _ _ z))
  refine err_stores (env := PySem.W.ksEnv qual scope hp.objs.size fI (.ref cda) cc) (L := hp.objs.size) (mB := fun x => ((sv :: xs).zip (Value.ref e :: us)).reverse.lookup x) I.oex hkd rfl (fun x hx => hloc x hx) hself hx2 fs none (fun _ => none) [] h2 _ _ I.inx I.nof (fun b o z => ?_) hK ⟨⟨t1, he2⟩, fun y hy => absurd rfl hy, rfl⟩ ⟨oL, esL, epL, kf _ _ hLe hL1, hL2⟩ hLe (by intro z; cases z) (by simp; omega) fun h' t' od' S hs k => ?_
  · exact kf b o (Nat.ne_of_lt (hK b o z)) (X1 b o z)
  · exact hR h' t' od' (by simpa using S) (fun z => hs (.inr z)) fun b o hb z => k b o hb (kf b o (Nat.ne_of_lt hb) (k0 b o z))
end
end Gm

set_option Elab.async false
set_option linter.all false
set_option maxRecDepth 100000
set_option autoImplicit false
/-! Gi8: raise of own errors -/
namespace Gm
open PySem PySem.Spec PyProof.Rows L2
abbrev EF := List (Str × Str × Pos × Pos × Pos × Pos)
def argW (xs : List Str) (vs : List V) (x : Str) : V := ((xs.zip vs).lookup x).getD .non
/-- the fields as stored, newest first -/
def errV (xs : List Str) (vs : List V) : EF → List (Str × V) → List (Str × V)
  | [], m => m
  | p :: r, m => errV xs vs r ((p.1, argW xs vs p.2.1) :: m)
/-- .. told: (number of the field, number of the argument) -/
def errD (ds : List D) : List (Nat × Nat) → List (Nat × D) → List (Nat × D)
  | [], m => m
  | p :: r, m => errD ds r ((p.1, ds.getD p.2 .non) :: m)
theorem look_vals {xs : List Str} {vs : List V} {us : List Value} (r : Vals vs us) (hl : us.length = xs.length) {x : Str} (hx : x ∈ xs) : ∃ u, argV xs us x = some u ∧ RelV (argW xs vs x) u := by
  induction r generalizing xs with
  | nil => cases xs with
    | nil => cases hx
    | cons _ _ => cases hl
  | @cons v u vs us h t ih => cases xs with
    | nil => cases hl
    | cons y xs =>
      by_cases e : x = y
      · subst e
        exact ⟨u, by simp [argV, List.lookup], by simpa [argW, List.lookup] using h⟩
      · have hb : (x == y) = false := by simpa using e
        obtain ⟨u2, q1, q2⟩ := ih (xs := xs) (by simpa using hl) (by rcases List.mem_cons.mp hx with q | q; exact absurd q e; exact q)
        exact ⟨u2, by simpa [argV, List.lookup, hb] using q1, by simpa [argW, List.lookup, hb] using q2⟩
theorem err_rel {xs : List Str} {vs : List V} {us : List Value} (r : Vals vs us) (hl : us.length = xs.length) : ∀ (fs : EF) (m : List (Str × V)) (mA : Str → Option Value), (∀ p ∈ fs, p.2.1 ∈ xs) → (∀ f, RelO (m.lookup f) (mA f)) → ∀ f, RelO ((errV xs vs fs m).lookup f) (errFs xs us fs mA f)
  | [], m, mA, _, h => h
  | p :: fs, m, mA, hx, h => by
    obtain ⟨u, h1, h2⟩ := look_vals r hl (hx p List.mem_cons_self)
    have := err_rel r hl fs ((p.1, argW xs vs p.2.1) :: m) (fun y => if y = p.1 then argV xs us p.2.1 else mA y) (fun q hq => hx q (List.mem_cons_of_mem _ hq)) (by
      rw [h1]
      exact fun g => relO_put h2 h g)
    exact this
theorem lookup_zip : ∀ {xs : List Str} {vs : List V} {i : Nat} {x : Str}, xs.Nodup → vs.length = xs.length → xs[i]? = some x → vs[i]? = some (argW xs vs x)
  | [], _, _, _, _, _, h => by simp at h
  | y :: xs, [], _, _, _, hl, _ => by cases hl
  | y :: xs, v :: vs, 0, x, nd, hl, h => by
    simp at h; subst h
    simp [argW, List.lookup]
  | y :: xs, v :: vs, i + 1, x, nd, hl, h => by
    rw [List.nodup_cons] at nd
    have h : xs[i]? = some x := by simpa using h
    have hb : (x == y) = false := by
      have : x ≠ y := fun z => nd.1 (z ▸ List.mem_of_getElem? h)
      simpa using this
    have := lookup_zip nd.2 (by simpa using hl) h (vs := vs)
    simpa [argW, List.lookup, hb] using this
theorem err_flds {T : Tab} {ρ : List Addr} {H : Hp} {xs : List Str} {vs : List V} {ds : List D} (nd : xs.Nodup) (hl : ds.length = xs.length) (t : Rps T ρ H ds vs) : ∀ {fs : EF} {js : List (Nat × Nat)} {mD : List (Nat × D)} {m : List (Str × V)}, Paired (fun p q => T.nm q.1 = p.1 ∧ xs[q.2]? = some p.2.1) fs js → Flds T ρ H mD m → Flds T ρ H (errD ds js mD) (errV xs vs fs m) := by
  intro fs js mD m h
  induction h generalizing mD m with
  | nil => exact fun q => q
  | @cons p q fs js h hr ih =>
    intro hm
    refine ih (.cons ⟨h.1, ?_⟩ hm)
    have h2 := lookup_zip nd (by rw [t.length]; exact hl) h.2
    obtain ⟨d, h3, h4⟩ := t.get' h2
    show Rp T ρ H (ds.getD q.2 .non) _
    rw [List.getD_eq_getElem?_getD, h3]
    exact h4
section
variable {T : Tab} {N : List Str} {sc : Scope} {k : Nat} {e : Expr} {es : List Expr} {pos p p' : Pos} {x : Str} {mas : SMo (List D)} {fI : Addr} {qual sv : Str} {xs : List Str} {fs : EF} {X : Cx} {ta : TA}
/-- C(e, ..): an error that has not been raised -/
def tErr (C : Addr) (xs : List Str) (fs : EF) (ta : TA) : L2.St → Hp → XK → Prop := fun σ H Q => ta σ H fun vs H1 => vs.length = xs.length ∧ ∀ dx, H1 dx = none → Q (.ref C) (some dx) (upd H1 dx (.xd (errV xs vs fs [])))
theorem pmk_err {C : Addr} (I0 : ErrIn T.P T.K T.mg C fI qual sv xs fs) (gd : Good T N sc k true X) (hf : fs ≠ []) (hfl : fs.length ≤ 900) (kC : PySem.W.keepIn T.K (.ref C) = true) (hg : sc.names.lookup x = some .globalImplicit) (hm : T.mg x = some (.ref C)) (hdb : (x == ("__debug__" : Str)) = false) (ha : PA X (e :: es) ta)
    (he : starEach (e :: es) X.env = (false, eval e X.env) :: starEach es X.env) (hpl : (backTo pos (starEach es X.env)).any (·.1) = false) : PMk X (.Call (.Name x p) (e :: es) [] pos) (tErr C xs fs ta) := by
  intro pins s σ H Q I h
  obtain ⟨nm, q, N', bs, bm, sn, sub, ab, col, dd, k0, k1, k2, k3, k5, hC, hbm⟩ := I0.oex.cls
  have T0 := I0.oex
  refine wpAny_Call_Name_kw (ld_glob I (by show X.env.scope.names.lookup x = _; rw [gd.hsc]; exact hg) (by rw [gd.hmg]; exact hm) ?_ hdb)
  refine PySem.W.callWith_K (h₀ := X.base) I.ok.mod.kin (by rw [gd.hK]; exact kC) (thn (ha.run pos pins s σ H _ I h) fun us s1 ⟨vs, H1, I1, r1, hz, q1⟩ => ⟨I1.kIn, ?_⟩) he hpl
  show wpAny _ _ (call (.ref C) us) _ _ _
  obtain ⟨hp, g, dr, tk, os⟩ := s1
  have kin := I1.kIn
  rw [gd.hK] at kin
  have hus : us.length = xs.length := by rw [← hz]; exact (Paired.length r1).symm
  have rm := ((gd.room rfl).1.mono (Nat.le_add_left 1 (2 * k))).make C us []
  have kk : ∀ b o, hp.get? b = some o → ((hp.push (PySem.W.kdv_tup us)).push (PySem.HandSPX.excO C hp.objs.size)).get? b = some o := fun b o z => Heap.get?_push_of_some _ (Heap.get?_push_of_some _ z)
  have hget : ((hp.push (PySem.W.kdv_tup us)).push (PySem.HandSPX.excO C hp.objs.size)).get? (hp.objs.size + 1) = some (PySem.HandSPX.excO C hp.objs.size) := by heap_get
  have mod := I.ok.mod
  rw [gd.hK, gd.hmg] at mod
  have bsz : X.base.objs.size ≤ hp.objs.size := I1.env0.bsz
  rw [gd.hP]
  refine wpAny_call (PySem.HandSPX.call_own F.excBase_ValueError (fun Y => PySem.HandSPX.refsVE_contains Y bm hbm) (kin _ _ hC) (PySem.W.looks_findIn kin I0.find) (fun self => PySem.W.bind_fn kin self I0.tI) (by rw [hus, sl_eq]; have := I0.few; omega)
    (err_init (base := X.base) mod I0 (fun b o z => kk b o (I1.bk b o z)) (Nat.le_succ_of_le bsz) hget rm.depth hus hfl fun h2 t2 od S hs kp => ?_))
  cases od with
  | none => exact absurd (hs hf) (by simp)
  | some dx =>
    obtain ⟨⟨t1, he2⟩, _, hns, hlt⟩ := S
    refine ⟨rfl, ?_⟩
    obtain ⟨G, g1', g2'⟩ := restrict h2 fun b => decide (b ≠ hp.objs.size + 1)
    have gk : ∀ b, b ≠ hp.objs.size + 1 → G.get? b = h2.get? b := fun b hb => g1' b (decide_eq_true hb)
    have ge : G.get? (hp.objs.size + 1) = none := g2' _ (by simp)
    have kG : ∀ b o, hp.get? b = some o → G.get? b = some o := fun b o z => by
      have lt : b < hp.objs.size := Heap.lt_size z
      rw [gk b (Nat.ne_of_lt (Nat.lt_succ_of_lt lt))]
      exact kp b o (Nat.lt_succ_of_lt lt) (kk b o z)
    have hsd : hp.objs.size ≤ dx := Nat.le_of_lt (Nat.lt_of_succ_lt hlt)
    have hnd : H1 dx = none := I1.hok.fresh hsd
    have rel := err_rel r1 hus fs [] (fun _ => none) I0.inx fun _ => True.intro
    have J := I1.laid (t' := t2) (a := dx) (o := .xd (errV xs vs fs [])) (h' := G) kG hsd ⟨_, hns.at fun o y => (gk dx (Nat.ne_of_gt hlt)).trans y, rel⟩
    refine ⟨hp.objs.size + 1, _, _, _, _, .ref C, some dx, rfl, J, fun b o z => ?_, ge, he2, ⟨rfl, rfl⟩, rfl, rfl, ?_, rfl, I1.bare, raises_own (by rw [gd.hK]; exact T0.exC) (by rw [gd.hK]; exact T0.tyC), q1 dx hnd⟩
    · by_cases hb : b = hp.objs.size + 1
      · rw [hb] at z
        have z : G.get? (hp.objs.size + 1) = some o := z
        rw [ge] at z; cases z
      · exact (gk b hb).symm.trans z
    · rw [upd_ne (Nat.ne_of_lt hlt)]
      exact I1.hok.fresh (Nat.le_succ _)
/-- raise C(e, ..) -/
def sRaise (c n : Nat) (js : List (Nat × Nat)) (a : SMo (List D)) : SMs := fun env M => (a env M).st env fun ds M1 => if ds.length = n then .exc c (errD ds js []) env M1 else .bad
theorem ss_raise (c : Nat) (js : List (Nat × Nat)) (I0 : ErrIn T.P T.K T.mg (T.adr c) fI qual sv xs fs) (hj : Paired (fun p q => T.nm q.1 = p.1 ∧ xs[q.2]? = some p.2.1) fs js) (hf : fs ≠ []) (hfl : fs.length ≤ 900) (kC : PySem.W.keepIn T.K (.ref (T.adr c)) = true) (hg : sc.names.lookup x = some .globalImplicit) (hm : T.mg x = some (.ref (T.adr c))) (hdb : (x == ("__debug__" : Str)) = false)
    (ha : SAs T N sc k true (e :: es) mas) (he : ∀ env, starEach (e :: es) env = (false, eval e env) :: starEach es env := by intro _; rfl) (hpl : ∀ env, (backTo pos (starEach es env)).any (·.1) = false := by intro _; rfl) :
    SS T N sc k true (.Raise (some (.Call (.Name x p) (e :: es) [] pos)) none p') (sRaise c xs.length js mas) := fun X W gd tk => by
  refine PS.imp (ps_raise gd.calm tk (pmk_err I0 gd.toGood hf hfl kC hg hm hdb (ha X W gd.toGood tk) (he _) (hpl _))) fun D σ H h => ?_
  obtain ⟨ρ, env, M, hev, hh, hd⟩ := h
  refine ⟨ρ, env, M, hev, hh, Den.mono (DenS.st hev hd) fun vs H1 ⟨ρ1, M1, ds, s1, r1, q1⟩ => ?_⟩
  split at q1
  · rename_i hl
    refine ⟨by rw [r1.length]; exact hl, fun dx hn => ?_⟩
    have nd : xs.Nodup := (List.nodup_cons.mp I0.nd).2
    have st := Stp.side (u := .xd (errV xs vs fs [])) s1.hr hn
    exact q1 ρ1 σ dx _ _ st ((hev.stp s1).stp st) upd_same (err_flds nd hl (r1.stp st) hj .nil)
  · exact q1.elim
end
end Gm

set_option Elab.async false
set_option linter.all false
set_option maxRecDepth 100000
set_option autoImplicit false
/-! Gi9: list comprehensions of one and of two clauses -/
namespace Gm
open PySem PySem.Spec PyProof.Rows L2

/-- the target of a clause: a name (its slot), or a tuple of names -/
inductive TgS where
  | one (i : Nat) | many (is : List Nat)
def TgS.ix : TgS → List Nat
  | .one i => [i]
  | .many is => is
def setAll (env : Ev) : List Nat → List D → Ev
  | i :: is, d :: ds => setAll (env.set i (some d)) is ds
  | _, _ => env
def bindT : TgS → D → Ev → Option Ev
  | .one i, d, env => some (env.set i (some d))
  | .many is, .tup xs, env => if xs.length = is.length then some (setAll env is xs) else none
  | .many _, _, _ => none
def chainG : List Nat → TGs
  | [] => L2.gNil
  | i :: is => L2.gCons (L2.gName i) (chainG is)
def shG (K : PySem.W.Frag) : TgS → TG
  | .one i => L2.gName i
  | .many is => L2.gTup K is.length (chainG is)
/-- the slots of a block's own names forgotten -/
def wipeE (env : Ev) : List Nat → Ev
  | [] => env
  | v :: vs => (wipeE env vs).set v none
def WNo : WX := fun _ _ _ _ => False
section
variable {T : Tab} {N : List Str} {sc scope : Scope} {k : Nat} {e a b c tg iter : Expr} {es : List Expr} {ma mb mc me : SMo D} {ta tb : SMo Bool} {pos p : Pos} {x y : Str} {mi : SMo IterD} {sh : TgS} {own : List (Str × Nat)}
theorem wipe_set {σ : L2.St} {i : Nat} {o : Option V} : ∀ {vs : List Nat}, i ∈ vs → wipe (σ.set i o) vs = wipe σ vs
  | [], h => by cases h
  | v :: vs, h => by
    unfold wipe
    by_cases hv : i ∈ vs
    · rw [wipe_set hv]
    · have : i = v := (List.mem_cons.mp h).elim id fun z => absurd z hv
      subst this
      have comm : ∀ {vs : List Nat}, i ∉ vs → wipe (σ.set i o) vs = (wipe σ vs).set i o := by
        intro vs
        induction vs with
        | nil => intro _; rfl
        | cons w ws ih =>
          intro h
          have h1 : i ≠ w := fun z => h (by rw [z]; exact List.mem_cons_self)
          have h2 : i ∉ ws := fun z => h (List.mem_cons_of_mem _ z)
          unfold wipe
          rw [ih h2, List.set_comm _ _ h1]
      rw [comm hv, List.set_set]
theorem EnvR.wipe {ρ : List Addr} {H : Hp} {env : Ev} {σ : L2.St} (h : EnvR T ρ H env σ) : ∀ vs : List Nat, EnvR T ρ H (wipeE env vs) (L2.wipe σ vs)
  | [] => h
  | v :: vs => (EnvR.wipe h vs).unset none
theorem EnvR.mono {ρ ρ' : List Addr} {H H' : Hp} {env : Ev} {σ : L2.St} (p : ρ <+: ρ') (e : Ext H H') (h : EnvR T ρ H env σ) : EnvR T ρ' H' env σ := ⟨h.len, fun i d q => by
  obtain ⟨v, h1, h2⟩ := h.at_ i d q
  exact ⟨v, h1, h2.mono p e⟩⟩
theorem chain_use2 {ρ : List Addr} {H : Hp} {Q : L2.St → Hp → Prop} {ws : List Nat} {σ0 : L2.St} : ∀ {is : List Nat} {ds : List D} {vs : List V} {env : Ev} {σ : L2.St}, EnvR T ρ H env σ → Rps T ρ H ds vs → ds.length = is.length → (∀ i ∈ is, i ∈ ws) → wipe σ ws = σ0 →
    (∀ σ2, EnvR T ρ H (setAll env is ds) σ2 → wipe σ2 ws = σ0 → Q σ2 H) → chainG is vs σ H Q
  | [], [], vs, env, σ, he, t, _, _, hw, q => ⟨t.nil_inv, q σ he hw⟩
  | i :: is, d :: ds, vs, env, σ, he, t, hl, hi, hw, q => by
    obtain ⟨v, r, rfl, h1, h2⟩ := t.cons_inv
    refine ⟨v, r, rfl, ?_⟩
    show chainG is r (σ.set i (some v)) H Q
    refine chain_use2 (he.set h1) h2 (by simpa using hl) (fun j hj => hi j (List.mem_cons_of_mem _ hj)) ?_ q
    rw [wipe_set (hi i List.mem_cons_self)]; exact hw
  | [], _ :: _, _, _, _, _, _, hl, _, _, _ => by cases hl
  | _ :: _, [], _, _, _, _, _, hl, _, _, _ => by cases hl
theorem sh_use {ρ : List Addr} {H : Hp} {Q : L2.St → Hp → Prop} {ws : List Nat} {env env2 : Ev} {σ : L2.St} {d : D} {v : V} (he : EnvR T ρ H env σ) (r : Rp T ρ H d v) (hi : ∀ i ∈ sh.ix, i ∈ ws) (eb : bindT sh d env = some env2)
    (q : ∀ σ2, EnvR T ρ H env2 σ2 → wipe σ2 ws = wipe σ ws → Q σ2 H) : shG T.K sh v σ H Q := by
  cases sh with
  | one i =>
    cases eb
    exact q _ (he.set r) (wipe_set (hi i List.mem_cons_self))
  | many is =>
    cases d with
    | tup xs =>
      simp only [bindT] at eb
      split at eb
      · rename_i hl
        cases eb
        obtain ⟨a, vs, rfl, s1, t1⟩ := rp_tup_inv r
        exact ⟨a, vs, rfl, s1, t1.length.trans hl, chain_use2 he t1 hl hi rfl q⟩
      · cases eb
    | _ => cases eb
/-- the target's rule in a block -/
def TgOk (T : Tab) (N : List Str) (sc scope : Scope) (k : Nat) (tg : Expr) (sh : TgS) : Prop := ∀ X, Good T N (relS scope sc) k true X → (X.fn = fun x => scope.names.lookup x == some .cell) → PG X tg (shG X.K sh)
def TgsOk (T : Tab) (N : List Str) (sc scope : Scope) (k : Nat) (tg : List Expr) (is : List Nat) : Prop := ∀ X, Good T N (relS scope sc) k true X → (X.fn = fun x => scope.names.lookup x == some .cell) → PGs X tg (chainG is)
theorem rel_own (h : scope.names.lookup x = some .local ∨ scope.names.lookup x = some .cell) : (relS scope sc).names.lookup x = scope.names.lookup x := by
  rcases h with h | h
  · rw [h]; exact lookup_relS_keep (by intro z; cases z) h
  · rw [h]; exact lookup_relS_keep (by intro z; cases z) h
theorem tg_name (i : Nat) (hN : N[i]? = some x) (hx : scope.names.lookup x = some .local ∨ scope.names.lookup x = some .cell) : TgOk T N sc scope k (.Name x pos) (.one i) := fun X g hf => by
  have e : X.env.scope.names.lookup x = scope.names.lookup x := by rw [g.hsc]; exact rel_own hx
  refine pg_name (by rw [g.hN]; exact g.nd) (by rw [g.hN]; exact hN) (by unfold L2.Loc; rw [e]; exact hx) ?_
  rcases hx with hx | hx
  · right; rw [e]; exact hx
  · left; rw [hf]; show (scope.names.lookup x == some .cell) = true; rw [hx]; rfl
theorem tgs_nil : TgsOk T N sc scope k [] [] := fun X g hf => pgs_nil
theorem tgs_cons {i : Nat} {is : List Nat} (h1 : TgOk T N sc scope k e (.one i)) (h2 : TgsOk T N sc scope k es is) (hs : ∀ env, (assignEach (e :: es) env).map (·.2) = assign e env :: (assignEach es env).map (·.2) := by intro _; rfl) : TgsOk T N sc scope k (e :: es) (i :: is) := fun X g hf =>
  pgs_cons (h1 X g hf) (h2 X g hf) (hs _)
theorem tg_tup {kk : Nat} {is : List Nat} (h : TgsOk T N sc scope k es is) (hn : ∀ env, (assignEach es env).length = is.length := by intro _; rfl) (hst : ∀ env, (assignEach es env).findIdx? (·.1) = none := by intro _; rfl) : TgOk T N sc scope k (.Tuple es kk pos) (.many is) := fun X g hf =>
  pg_tup g.calm (h X g hf) (hn _) (hst _)
/-- a clause's tests -/
def STs (T : Tab) (N : List Str) (sc : Scope) (k : Nat) (ifs : List Expr) (m : SMo Bool) : Prop := ∀ X W, Good T N sc k true X → Takes X W → PTs X ifs (tT T W m)
def vYes : SMo Bool := fun _ M => .ok true M
theorem PTs.imp {X : Cx} {e : List Expr} {t t' : TT} (h : PTs X e t) (i : ∀ σ H Q, t' σ H Q → t σ H Q) : PTs X e t' := ⟨fun pins s σ H Q I q => h.run pins s σ H Q I (i σ H Q q)⟩
theorem sts_nil : STs T N sc k [] vYes := fun X W g tk => by
  refine PTs.imp pts_nil fun σ H Q h => ?_
  obtain ⟨ρ, env, M, he, hh, hq⟩ := h
  exact hq ρ true H (Stp.refl hh) rfl
theorem sts_one (h : ST T N sc k true c ta) : STs T N sc k [c] ta := fun X W g tk => pts_one (h X W g tk)

/-! ### one clause -/
def compF (J : IterD) (sh : TgS) (t : SMo Bool) (e : SMo D) (l : Nat) (env : Ev) : Nat → Nat → Hh → Res D
  | 0, _, _ => .bad
  | n + 1, i, M => match J i M with
    | none => .bad
    | some none => .ok (.loc l) M
    | some (some d) => match bindT sh d env with
      | none => .bad
      | some env2 => match t env2 M with
        | .ok true M3 => match e env2 M3 with
          | .ok y M4 => match M4[l]? with
            | some (.lst acc) => if acc.length < 16777216 then compF J sh t e l env n (i + 1) (M4.set l (.lst (acc ++ [y]))) else .bad
            | _ => .bad
          | _ => .bad
        | .ok false M3 => compF J sh t e l env n (i + 1) M3
        | _ => .bad
def vComp (it : SMo IterD) (sh : TgS) (t : SMo Bool) (e : SMo D) (ws : List Nat) : SMo D := fun env M => (it env M).bind fun J M1 => compF J sh t e M1.length (wipeE env ws) NN 0 (M1 ++ [.lst []])
theorem good_blk {X : Cx} (g : Good T N sc k true X) (s : Shared) (H : Hp) (C : Addr) (cl : List (Str × Addr)) (fp : List Addr) : Good T N (relS scope sc) k true (X.blk s H scope (compEnvC scope cl C X.env) fp) := by
  refine ⟨g.hP, g.hw, g.hK, g.hmg, g.hb, g.hN, ?_, g.calm, g.un, g.nd, g.room⟩
  show relS scope X.env.scope = _
  rw [g.hsc]
theorem takes_no' {X : Cx} : Takes X WNo := takes_none5
theorem Den.no {α β : Type} {R : RelX α β} {W : WX} {σ : L2.St} {ρ : List Addr} {H : Hp} {r : Res α} {Q : β → Hp → Prop} {f : α → Hh → Prop} (h : match r with | .ok d M => f d M | _ => False)
    (q : ∀ d M ρ' v H', f d M → Stp T ρ H ρ' M H' → R T ρ' H' d v → Q v H') : Den T R W σ ρ H r Q := by
  cases r with
  | ok d M => exact fun ρ' v H' s r => q d M ρ' v H' h s r
  | exc _ _ _ => exact h.elim
  | bad => exact h.elim
theorem den_nob {W : WX} {σ : L2.St} {ρ : List Addr} {H : Hp} {Q : VK} : ¬ Den T (fun T => Rp T) W σ ρ H (.bad : Res D) Q := fun h => h
theorem comp_use {W : WX} {σ : L2.St} {H : Hp} {Q : VK} {ws : List Nat} (hi : ∀ i ∈ sh.ix, i ∈ ws) (h : tE T W (vComp mi sh ta me ws) σ H Q) : tLc (tI T W mi) (shG T.K sh) (tT T WNo ta) (tE T WNo me) ws σ H Q := by
  obtain ⟨ρ, env, M, he, hh, hd⟩ := h
  refine ⟨ρ, env, M, he, hh, Den.mono (Den.bind hd) fun J H1 ⟨ρ1, M1, it, s1, r1, q1⟩ => ?_⟩
  intro D hD
  have hr := s1.hr
  have sA := Stp.alloc (p := D) (u := .lst []) (o := .lst []) hr hD fun pf => ⟨[], upd_same, Rps.nil⟩
  have q1 := Den.lift sA q1
  have he1 := (he.stp s1).wipe ws
  refine ⟨fun i m H' => ∃ ρ' M', ρ1 ++ [D] <+: ρ' ∧ Ext H1 H' ∧ HeapR T ρ' M' H' ∧ Den T (fun T => Rp T) W σ ρ' H' (compF it sh ta me M1.length (wipeE env ws) m i M') Q, ⟨NN, _, _, List.prefix_rfl, sA.ext, sA.hr, q1⟩, ?_⟩
  rintro i m H2 ⟨ρ2, M2, hp, hx, hh2, hd2⟩
  have hl : ρ2[M1.length]? = some D := pre_get hp (by rw [← hr.len]; simp)
  cases m with
  | zero => exact hd2.elim
  | succ n =>
    have hd2 : Den T (fun T => Rp T) W σ ρ2 H2 (match it i M2 with | none => .bad | some none => .ok (.loc M1.length) M2 | some (some d) => match bindT sh d (wipeE env ws) with
      | none => .bad
      | some env2 => match ta env2 M2 with
        | .ok true M3 => match me env2 M3 with
          | .ok y M4 => match M4[M1.length]? with
            | some (.lst acc) => if acc.length < 16777216 then compF it sh ta me M1.length (wipeE env ws) n (i + 1) (M4.set M1.length (.lst (acc ++ [y]))) else .bad
            | _ => .bad
          | _ => .bad
        | .ok false M3 => compF it sh ta me M1.length (wipeE env ws) n (i + 1) M3
        | _ => .bad) Q := hd2
    have hp1 : ρ1 <+: ρ2 := (List.prefix_append _ _).trans hp
    have hj := r1 i ρ2 M2 H2 hp1 hx hh2
    cases ei : it i M2 with
    | none => rw [ei] at hd2; exact hd2.elim
    | some o =>
      rw [ei] at hd2 hj
      cases o with
      | none =>
        refine .inl ⟨hj, hd2 ρ2 _ H2 (Stp.refl hh2) ?_⟩
        show Rp T ρ2 H2 _ _
        rw [Rp]; exact ⟨D, rfl, hl⟩
      | some d =>
        obtain ⟨go, hy⟩ := hj
        refine .inr ⟨go, fun H' => ∃ ρ' M', ρ1 ++ [D] <+: ρ' ∧ Ext H1 H' ∧ HeapR T ρ' M' H' ∧ Den T (fun T => Rp T) W σ ρ' H' (compF it sh ta me M1.length (wipeE env ws) n (i + 1) M') Q, fun H' w => ⟨n, Nat.lt_succ_self _, w⟩, fun x H3 y => ?_⟩
        obtain ⟨s3, r3⟩ := hy x H3 y
        have hd2 := Den.lift s3 hd2
        have he3 := he1.mono (hp1.trans s3.pre) (hx.trans s3.ext)
        cases eb : bindT sh d (wipeE env ws) with
        | none => simp only [eb] at hd2; exact hd2.elim
        | some env2 =>
          simp only [eb] at hd2
          refine sh_use (ws := ws) he3 r3 hi eb fun σ2 he4 hw => ⟨hw.trans ?_, ρ2, env2, M2, he4, s3.hr, ?_⟩
          · clear hw he3 he1 hd2
            have idem : ∀ {vs ws : List Nat} {σ : L2.St}, (∀ v ∈ vs, v ∈ ws) → wipe (wipe σ vs) ws = wipe σ ws := by
              intro vs
              induction vs with
              | nil => intro ws σ _; rfl
              | cons v vs ih =>
                intro ws σ hv
                show wipe ((wipe σ vs).set v none) ws = _
                rw [wipe_set (hv v List.mem_cons_self)]
                exact ih fun w hw => hv w (List.mem_cons_of_mem _ hw)
            exact idem fun v hv => hv
          cases et : ta env2 M2 with
          | exc _ _ _ => simp only [et] at hd2; exact hd2.elim
          | bad => simp only [et] at hd2; exact hd2.elim
          | ok bb M3 =>
            intro ρ4 b4 H4 s4 r4
            cases (show bb = b4 from r4)
            cases bb with
            | false =>
              simp only [et] at hd2
              rw [if_neg Bool.false_ne_true]
              exact ⟨ρ4, M3, (hp.trans s3.pre).trans s4.pre, (hx.trans s3.ext).trans s4.ext, s4.hr, Den.lift s4 hd2⟩
            | true =>
              simp only [et] at hd2
              rw [if_pos rfl]
              refine ⟨ρ4, env2, M3, he4.stp s4, s4.hr, ?_⟩
              cases ee : me env2 M3 with
              | exc _ _ _ => simp only [ee] at hd2; exact hd2.elim
              | bad => simp only [ee] at hd2; exact hd2.elim
              | ok yy M4 =>
                simp only [ee] at hd2
                intro ρ5 v5 H5 s5 r5
                split at hd2
                · rename_i acc ea
                  split at hd2
                  · rename_i hacc
                    have hl5 : ρ5[M1.length]? = some D := pre_get ((s3.pre.trans s4.pre).trans s5.pre) hl
                    obtain ⟨va, h1, h2⟩ := s5.hr.obj M1.length _ D ea hl5
                    refine ⟨va, h1, by rw [h2.length, sl_eq]; exact hacc, ?_⟩
                    have st := Stp.put s5.hr hl5 h1 id (OR.lst (h2.append (Rps.one r5)) ⟨_, h1, id⟩)
                    exact ⟨ρ5, _, ((hp.trans s3.pre).trans s4.pre).trans s5.pre, (((hx.trans s3.ext).trans s4.ext).trans s5.ext).trans st.ext, st.hr, Den.lift st (Den.lift s5 (Den.lift s4 hd2))⟩
                  · exact hd2.elim
                · exact hd2.elim
theorem se_comp {ifs : List Expr} (hi : SI T N sc k true tg iter mi) (hb : BlkOk N sc scope own) (hsub : ∀ i ∈ sh.ix, i ∈ own.map (·.2)) (hg : TgOk T N sc scope k tg sh) (ht : STs T N (relS scope sc) k ifs ta) (he : SE T N (relS scope sc) k true e me) (hs : ∀ env x, foldedSetIterable iter env x = pure x := by intros; rfl) :
    SE T N sc k true (.ListComp e [⟨tg, iter, ifs, 0⟩] scope pos) (vComp mi sh ta me (own.map (·.2))) := fun X W gd tk => by
  refine PE.imp (pe_lc (g := shG X.K sh) gd.calm (by rw [gd.hN]; exact gd.nd) (hi X W gd tk) (by rw [gd.hN, gd.hsc]; exact hb) (fun s H C cl fp => hg _ (good_blk gd s H C cl fp) rfl) (fun s H C cl fp => ht _ WNo (good_blk gd s H C cl fp) takes_no') (fun s H C cl fp => he _ WNo (good_blk gd s H C cl fp) takes_no') (hs _)) fun σ H Q h => ?_
  show tLc _ (shG X.K sh) _ _ _ σ H Q
  rw [gd.hK]
  exact comp_use hsub h
/-- name = [..], on one line -/
theorem ss_setc {ifs : List Expr} {i : Nat} {py spos : Pos} (hy : N[i]? = some y) (hyl : sc.names.lookup y = some .local) (hi : SI T N sc k true tg iter mi) (hb : BlkOk N sc scope own) (hsub : ∀ i ∈ sh.ix, i ∈ own.map (·.2)) (hg : TgOk T N sc scope k tg sh) (ht : STs T N (relS scope sc) k ifs ta) (he : SE T N (relS scope sc) k true e me)
    (hkd : sc.kind = .function) (hl : (py.line == pos.line) = true) (ho : (scope.names.any fun (n, k) => n == y && (k == .local || k == .cell)) = false) (hs : ∀ env x, foldedSetIterable iter env x = pure x := by intros; rfl) :
    SS T N sc k true (.Assign [.Name y py] (.ListComp e [⟨tg, iter, ifs, 0⟩] scope pos) spos) (sAsg (vComp mi sh ta me (own.map (·.2))) (gName i)) := fun X W gs tk => by
  have gd := gs.toGood
  refine PS.imp (ps_setLc (g := shG X.K sh) gd.calm (by rw [gd.hN]; exact gd.nd) (by rw [gd.hN]; exact hy) (by rw [gd.hsc]; exact hyl) (sw_true (by rw [gd.hsc]; exact hkd) (by rw [gd.hsc]; exact hyl) hl ho) (hi X W gd tk) (by rw [gd.hN, gd.hsc]; exact hb) (fun s H C cl fp => hg _ (good_blk gd s H C cl fp) rfl)
    (fun s H C cl fp => ht _ WNo (good_blk gd s H C cl fp) takes_no') (fun s H C cl fp => he _ WNo (good_blk gd s H C cl fp) takes_no') (hs _)) fun D σ H h => ?_
  obtain ⟨ρ, env, M, hev, hh, hd⟩ := h
  show tLc _ (shG X.K sh) _ _ _ σ H _
  rw [gd.hK]
  refine comp_use (W := W) hsub ⟨ρ, env, M, hev, hh, ?_⟩
  refine Den.mono (DenS.st hev hd) fun v H1 ⟨ρ1, M1, d, s1, r1, q1⟩ => ?_
  exact q1 ρ1 _ H1 (Stp.refl s1.hr) ((hev.stp s1).set r1)
end
end Gm

set_option Elab.async false
set_option linter.all false
set_option maxRecDepth 100000
set_option autoImplicit false
/-! Gi10: built-in functions and types called, methods of built-in types -/
namespace Gm
open PySem PySem.Spec PyProof.Rows L2

abbrev OpL := List D → Hh → Option (D × Hh)
abbrev OpM := D → List D → Hh → Option (D × Hh)
def rCl (T : Tab) (F : OpL) : List V → Hp → VK → Prop := fun xs H Q => ∃ ρ M ds d M', HeapR T ρ M H ∧ Rps T ρ H ds xs ∧ F ds M = some (d, M') ∧ ∀ ρ' v H', Stp T ρ H ρ' M' H' → Rp T ρ' H' d v → Q v H'
def CallG (T : Tab) (N : List Str) (sc : Scope) (k : Nat) (cm : Bool) (f : Value) (F : OpL) : Prop := ∀ X, Good T N sc k cm X → CallR X f (rCl T F)
def rMt (T : Tab) (F : OpM) : V → List V → Hp → VK → Prop := fun x xs H Q => ∃ ρ M d0 ds d M', HeapR T ρ M H ∧ Rp T ρ H d0 x ∧ Rps T ρ H ds xs ∧ F d0 ds M = some (d, M') ∧ ∀ ρ' v H', Stp T ρ H ρ' M' H' → Rp T ρ' H' d v → Q v H'
def MethG (T : Tab) (N : List Str) (sc : Scope) (k : Nat) (cm : Bool) (id : String) (F : OpM) : Prop := ∀ X, Good T N sc k cm X → MtR X id (rMt T F)
def vB (F : OpL) (a : SMo (List D)) : SMo D := fun env M => (a env M).bind fun ds M1 => Res.ofO (F ds M1)
/-- o.m(..): ty: the types whose method it is -/
def tyM (ty : String) (d : D) (M : Hh) : Bool := match d with
  | .str _ => ty == "str"
  | .loc l => match M[l]? with
    | some (.lst _) => ty == "list"
    | some (.dic _) => ty == "dict"
    | _ => false
  | .frz _ => ty == "list"
  | _ => false
def vM (ty : String) (F : OpM) (o : SMo D) (a : SMo (List D)) : SMo D := fun env M => (o env M).bind fun x M1 => if tyM ty x M1 then (a env M1).bind fun ds M2 => Res.ofO (F x ds M2) else .bad

section
variable {T : Tab} {N : List Str} {sc : Scope} {k : Nat} {cm : Bool} {e a b c o : Expr} {ma mb mc : SMo D} {es : List Expr} {mas : SMo (List D)} {pos p apos cpos : Pos} {x : Str} {f : Value} {F : OpL} {FM : OpM} {id : String}
theorem callG_of (h : ∀ X, Good T N sc k cm X → ∀ ρ M H ds d M' xs, HeapR T ρ M H → Rps T ρ H ds xs → F ds M = some (d, M') → ∀ Q : VK, (∀ ρ' v H', Stp T ρ H ρ' M' H' → Rp T ρ' H' d v → Q v H') → ∃ r, CallR X f r ∧ r xs H Q) : CallG T N sc k cm f F := by
  intro X gd pins s σ H xs us Q I r ⟨ρ, M, ds, d, M', hh, t, e, q⟩
  obtain ⟨r', hr, hq⟩ := h X gd ρ M H ds d M' xs hh t e Q q
  exact hr pins s σ H xs us Q I r hq
theorem methG_of (h : ∀ X, Good T N sc k cm X → ∀ ρ M H d0 ds d M' x xs, HeapR T ρ M H → Rp T ρ H d0 x → Rps T ρ H ds xs → FM d0 ds M = some (d, M') → ∀ Q : VK, (∀ ρ' v H', Stp T ρ H ρ' M' H' → Rp T ρ' H' d v → Q v H') → ∃ r, MtR X id r ∧ r x xs H Q) : MethG T N sc k cm id FM := by
  intro X gd pins s σ H x xs v us Q I rx r ⟨ρ, M, d0, ds, d, M', hh, r0, t, e, q⟩
  obtain ⟨r', hr, hq⟩ := h X gd ρ M H d0 ds d M' x xs hh r0 t e Q q
  exact hr pins s σ H x xs v us Q I rx r hq
theorem cb_use {W : WX} {σ : L2.St} {H : Hp} {Q : VK} (h : tE T W (vB F mas) σ H Q) : tCB (rCl T F) (tA T W mas) σ H Q := by
  obtain ⟨ρ, env, M, he, hh, hd⟩ := h
  refine ⟨ρ, env, M, he, hh, Den.mono (Den.bind hd) fun vs H1 ⟨ρ1, M1, ds, s1, r1, q1⟩ => ?_⟩
  obtain ⟨d, M', e, q⟩ := den_ofO q1
  exact ⟨ρ1, M1, ds, d, M', s1.hr, r1, e, q⟩
/-- a built-in function called by its name -/
theorem se_bi (hc : CallG T N sc k cm (.builtin id) F) (hg : sc.names.lookup x = some .globalImplicit) (hm : T.mg x = none) (hv : bootBuiltins x = some (.builtin id)) (ha : SAs T N sc k cm (e :: es) mas) (hn : x ≠ "__name__" := by decide) (hdb : (x == ("__debug__" : Str)) = false := by decide)
    (he : ∀ env, starEach (e :: es) env = (false, eval e env) :: starEach es env := by intro _; rfl) (hpl : ∀ env, (backTo pos (starEach es env)).any (·.1) = false := by intro _; rfl) : SE T N sc k cm (.Call (.Name x p) (e :: es) [] pos) (vB F mas) := fun X W g tk =>
  PE.imp (pe_callB (hc X g) (by show X.env.scope.names.lookup x = _; rw [g.hsc]; exact hg) (by rw [g.hmg]; exact hm) hv (ha X W g tk) hn hdb (he _) (hpl _)) fun σ H Q h => cb_use h
/-- a built-in type called by its name -/
theorem se_ty {ty : String} (hc : CallG T N sc k cm (.type ty) F) (hg : sc.names.lookup x = some .globalImplicit) (hm : T.mg x = none) (hv : bootBuiltins x = some (.type ty)) (ha : SAs T N sc k cm (e :: es) mas) (hn : x ≠ "__name__" := by decide) (hdb : (x == ("__debug__" : Str)) = false := by decide)
    (he : ∀ env, starEach (e :: es) env = (false, eval e env) :: starEach es env := by intro _; rfl) (hpl : ∀ env, (backTo pos (starEach es env)).any (·.1) = false := by intro _; rfl) : SE T N sc k cm (.Call (.Name x p) (e :: es) [] pos) (vB F mas) := fun X W g tk =>
  PE.imp (pe_callTy (hc X g) (by show X.env.scope.names.lookup x = _; rw [g.hsc]; exact hg) (by rw [g.hmg]; exact hm) hv (ha X W g tk) hn hdb (he _) (hpl _)) fun σ H Q h => cb_use h
theorem tyM_ok {ty : String} {ρ : List Addr} {M : Hh} {H : Hp} {d : D} {v : V} (hh : HeapR T ρ M H) (r : Rp T ρ H d v) (h : tyM ty d M = true) : tyV T.K ty v H := by
  unfold tyM at h
  split at h
  · rw [(rp_str_inv r).1]; exact eq_of_beq h
  · split at h
    · rename_i l xs em
      obtain ⟨a, rfl, _, vs, h1, _⟩ := hh.at_ r em
      exact .inl ⟨eq_of_beq h, vs, SqL.of h1⟩
    · rename_i l kvs em
      obtain ⟨a, rfl, _, vs, h1, _⟩ := hh.at_ r em
      exact .inr (.inr (.inl ⟨eq_of_beq h, .inl ⟨_, h1⟩⟩))
    · cases h
  · obtain ⟨a, vs, rfl, h1, _⟩ := rp_frz_inv r
    exact .inl ⟨eq_of_beq h, vs, h1.sq⟩
  · cases h
theorem m_use {X : Cx} (g : Good T N sc k cm X) {W : WX} {ty : String} {σ : L2.St} {H : Hp} {Q : VK} {tx : TA} (htx : ∀ σ H Q, tA T W mas σ H Q → tx σ H Q) (h : tE T W (vM ty FM ma mas) σ H Q) : tBM X.K ty (rMt T FM) (tE T W ma) tx σ H Q := by
  obtain ⟨ρ, env, M, he, hh, hd⟩ := h
  refine ⟨ρ, env, M, he, hh, Den.mono (Den.bind hd) fun v H1 ⟨ρ1, M1, d, s1, r1, q1⟩ => ?_⟩
  split at q1
  · rename_i ht
    refine ⟨by rw [g.hK]; exact tyM_ok s1.hr r1 ht, htx _ _ _ ⟨ρ1, env, M1, he.stp s1, s1.hr, Den.mono (Den.bind q1) fun vs H2 ⟨ρ2, M2, ds, s2, r2, q2⟩ => ?_⟩⟩
    obtain ⟨d', M', e, q⟩ := den_ofO q2
    exact ⟨ρ2, M2, d, ds, d', M', s2.hr, r1.stp s2, r2, e, q⟩
  · exact q1.elim
/-- o.m(e, ..) -/
theorem se_m {ty : String} {name : Str} (pa : PlainAttrs ty) (slot : Slot ty name id) (hty : typeOf (.builtin id) = pure (.type "method_descriptor")) (hm : MethG T N sc k cm id FM) (ho : SE T N sc k cm o ma) (ha : SAs T N sc k cm (e :: es) mas)
    (hbase : ∀ env, attributeBase o name env (eval o env) = eval o env := by intro _; rfl)
    (hfew : ∀ env, ((backTo cpos (starEach (e :: es) env)).all (fun x => !x.1) && (backToKw cpos (keywordEach [] env)).all (fun x => x.1.isSome)
      && decide ((e :: es).length + ([] : List Keyword).length + (if ([] : List Keyword).isEmpty then 0 else 1) < 30)) = true := by intro _; rfl)
    (hline : (apos.endLine == cpos.line) = true := by rfl) (hs : ∀ env, starEach (e :: es) env = (false, eval e env) :: starEach es env := by intro _; rfl) (hpl : ∀ env, (backTo cpos (starEach es env)).any (·.1) = false := by intro _; rfl) :
    SE T N sc k cm (.Call (.Attribute o name apos) (e :: es) [] cpos) (vM ty FM ma mas) := fun X W g tk =>
  PE.imp (pe_bm pa slot hty (hm X g) (ho X W g tk) (ha X W g tk) (hbase _) (hfew _) hline (hs _) (hpl _)) fun σ H Q h => m_use g (fun _ _ _ z => z) h
/-- o.m() -/
theorem se_m0 {ty : String} {name : Str} (pa : PlainAttrs ty) (slot : Slot ty name id) (hty : typeOf (.builtin id) = pure (.type "method_descriptor")) (hm : MethG T N sc k cm id FM) (ho : SE T N sc k cm o ma)
    (hbase : ∀ env, attributeBase o name env (eval o env) = eval o env := by intro _; rfl) (hline : (apos.endLine == cpos.line) = true := by rfl) :
    SE T N sc k cm (.Call (.Attribute o name apos) [] [] cpos) (vM ty FM ma vNil) := fun X W g tk => by
  refine PE.imp (pe_bm0 pa slot hty (hm X g) (ho X W g tk) (hbase _) hline) fun σ H Q h => ?_
  obtain ⟨ρ, env, M, he, hh, hd⟩ := h
  refine ⟨ρ, env, M, he, hh, Den.mono (Den.bind hd) fun v H1 ⟨ρ1, M1, d, s1, r1, q1⟩ => ?_⟩
  split at q1
  · rename_i ht
    refine ⟨by rw [g.hK]; exact tyM_ok s1.hr r1 ht, ?_⟩
    obtain ⟨d', M', e, q⟩ := den_ofO (r := FM d [] M1) q1
    exact ⟨ρ1, M1, d, [], d', M', s1.hr, r1, Rps.nil, e, q⟩
  · exact q1.elim

/-! ### isinstance -/
inductive Ty where
  | non | bool | int | str | tuple | list | dict
  deriving DecidableEq
def Ty.nm : Ty → String
  | .non => "NoneType" | .bool => "bool" | .int => "int" | .str => "str" | .tuple => "tuple" | .list => "list" | .dict => "dict"
def subTy (a b : Ty) : Bool := decide (a = b) || (decide (a = .bool) && decide (b = .int))
theorem kit_all : ∀ a b : Ty, kitB a.nm b.nm = some (subTy a b) := by
  intro a b
  cases a <;> cases b <;> decide +kernel
def tyOf : D → Hh → Option Ty
  | .non, _ => some .non
  | .bl _, _ => some .bool
  | .int _, _ => some .int
  | .str _, _ => some .str
  | .tup _, _ => some .tuple
  | .frz _, _ => some .list
  | .loc l, M => match M[l]? with
    | some (.lst _) => some .list
    | some (.dic _) => some .dict
    | _ => none
  | .fn _, _ => none
def vIsi (ty : Ty) (a : SMo D) : SMo D := fun env M => (a env M).bind fun d M1 => match tyOf d M1 with
  | some t => .ok (.bl (subTy t ty)) M1
  | none => .bad
theorem tyX_of {ρ : List Addr} {M : Hh} {H : Hp} {d : D} {v : V} {t : Ty} (hh : HeapR T ρ M H) (r : Rp T ρ H d v) (h : tyOf d M = some t) : TyX T.K H v (.type t.nm) := by
  cases d with
  | non => cases h; rw [rp_non_inv r]; exact .base .non
  | bl b => cases h; rw [rp_bl_inv r]; exact .base (.bl _)
  | int i => cases h; rw [rp_int_inv r]; exact .base (.int _)
  | str s => cases h; rw [(rp_str_inv r).1]; exact .base (.str _)
  | tup xs =>
    cases h
    obtain ⟨a, vs, rfl, s, _⟩ := rp_tup_inv r
    rcases s with (s | ⟨o, s⟩) | s
    · exact .base (.tup s)
    · exact .fTuple s
    · obtain ⟨o, its, n, h1, h2, _⟩ := s
      exact .kTuple h1 h2
  | frz xs =>
    cases h
    obtain ⟨a, vs, rfl, s, _⟩ := rp_frz_inv r
    rcases s with ⟨o, s⟩ | ⟨o, its, n, h1, h2, _⟩
    · exact .base (.frz s)
    · exact .kList h1 h2
  | loc l =>
    simp only [tyOf] at h
    split at h
    · rename_i em
      cases h
      obtain ⟨a, rfl, _, vs, h1, _⟩ := hh.at_ r em
      exact .base (.lst h1)
    · rename_i em
      cases h
      obtain ⟨a, rfl, _, vs, h1, _⟩ := hh.at_ r em
      exact .base (.dK h1)
    · cases h
  | fn g => cases h
theorem se_isi {p2 : Pos} {y : Str} (ty : Ty) (hg : sc.names.lookup ("isinstance" : Str) = some .globalImplicit) (hm : T.mg ("isinstance" : Str) = none) (ha : SE T N sc k cm a ma) (hg2 : sc.names.lookup y = some .globalImplicit) (hm2 : T.mg y = none) (hv2 : bootBuiltins y = some (.type ty.nm)) (hn2 : y ≠ "__name__" := by decide) (hdb2 : (y == ("__debug__" : Str)) = false := by decide)
    (he : ∀ env, starEach [a, .Name y p2] env = (false, eval a env) :: starEach [.Name y p2] env := by intro _; rfl) : SE T N sc k cm (.Call (.Name "isinstance" p) [a, .Name y p2] [] pos) (vIsi ty ma) := fun X W g tk => by
  refine PE.imp (pe_callB call_isi (by show X.env.scope.names.lookup _ = _; rw [g.hsc]; exact hg) (by rw [g.hmg]; exact hm) (by decide +kernel) (pa_cons (ha X W g tk) (pa_cons (pe_bltn (v := .ty ty.nm) (by show X.env.scope.names.lookup _ = _; rw [g.hsc]; exact hg2) (by rw [g.hmg]; exact hm2) hv2 rfl hn2 hdb2) pa_nil (by rfl)) (he _)) (by decide) (by decide) (he _) (by rfl)) fun σ H Q h => ?_
  obtain ⟨ρ, env, M, hev, hh, hd⟩ := h
  refine ⟨ρ, env, M, hev, hh, Den.mono (Den.bind hd) fun v H1 ⟨ρ1, M1, d, s1, r1, q1⟩ => ?_⟩
  split at q1
  · rename_i t et
    refine ⟨v, .ty ty.nm, .type t.nm, .type ty.nm, subTy t ty, rfl, .ty _, ?_, kit_ty (kit_all t ty), q1 ρ1 _ H1 (Stp.refl s1.hr) rp_bl⟩
    rw [g.hK]
    exact tyX_of s1.hr r1 et
  · exact q1.elim

/-! ### len, int, str, bool, tuple, list, all, any, sum, max, abs -/
def fLen : OpL
  | [.str s], M => if s.length ≤ 16777216 then some (.int s.length, M) else none
  | [.tup xs], M => some (.int xs.length, M)
  | [.frz xs], M => some (.int xs.length, M)
  | [.loc l], M => match M[l]? with
    | some (.lst xs) => some (.int xs.length, M)
    | some (.dic kvs) => some (.int kvs.length, M)
    | _ => none
  | _, _ => none
theorem cg_len : CallG T N sc k cm (.builtin "len") fLen := by
  refine callG_of fun X gd ρ M H ds d M' xs hh t e Q q => ?_
  unfold fLen at e
  split at e
  · split at e <;> cases e
    rename_i s hl
    obtain ⟨v, r, rfl, h1, h2⟩ := t.cons_inv
    rw [h2.nil_inv]
    refine ⟨_, call_len_str, _, by rw [(rp_str_inv h1).1], by rw [str_len, sl_eq]; exact hl, ?_⟩
    rw [str_len]
    exact q ρ _ H (Stp.refl hh) rp_int
  · cases e
    obtain ⟨v, r, rfl, h1, h2⟩ := t.cons_inv
    rw [h2.nil_inv]
    obtain ⟨a, vs, rfl, s1, t1⟩ := rp_tup_inv h1
    refine ⟨_, call_len_seq, a, vs, rfl, .inr (by rw [gd.hK]; exact s1), ?_⟩
    rw [t1.length]
    exact q ρ _ H (Stp.refl hh) rp_int
  · cases e
    obtain ⟨v, r, rfl, h1, h2⟩ := t.cons_inv
    rw [h2.nil_inv]
    obtain ⟨a, vs, rfl, s1, t1⟩ := rp_frz_inv h1
    refine ⟨_, call_len_seq, a, vs, rfl, .inl (by rw [gd.hK]; exact s1.sq), ?_⟩
    rw [t1.length]
    exact q ρ _ H (Stp.refl hh) rp_int
  · obtain ⟨v, r, rfl, h1, h2⟩ := t.cons_inv
    rw [h2.nil_inv]
    split at e
    · rename_i em
      cases e
      obtain ⟨a, rfl, _, vs, e1, t1⟩ := hh.at_ h1 em
      refine ⟨_, call_len_seq, a, vs, rfl, .inl (SqL.of e1), ?_⟩
      rw [t1.length]
      exact q ρ _ H (Stp.refl hh) rp_int
    · rename_i em
      cases e
      obtain ⟨a, rfl, _, vs, e1, t1⟩ := hh.at_ h1 em
      refine ⟨_, call_lenD, a, vs, rfl, e1, ?_⟩
      rw [← Paired.length t1]
      exact q ρ _ H (Stp.refl hh) rp_int
    · cases e
  · cases e
/-- the figures of an int -/
def figs (i : Int) : List Nat := (toString i).toList.map Char.toNat
theorem str_figs (i : Int) : (toString i : Str) = ⟨(figs i).toArray⟩ := by
  show PySem.Str.ofString (toString i) = _
  rw [PySem.Str.ofString_eq_toList]; rfl
theorem figs_lt (i : Int) : ∀ c ∈ figs i, c < 1114112 := fun c hc => by
  obtain ⟨ch, _, rfl⟩ := List.mem_map.mp hc
  have := ch.valid
  rcases this with h | ⟨_, h⟩
  · exact Nat.lt_trans h (by decide)
  · exact h
def fStr : OpL
  | [.int i], M => if i.natAbs.log2 < 1920 then some (.str (figs i), M) else none
  | [.str s], M => some (.str s, M)
  | _, _ => none
theorem cg_str : CallG T N sc k cm (.type "str") fStr := by
  refine callG_of fun X gd ρ M H ds d M' xs hh t e Q q => ?_
  unfold fStr at e
  split at e
  · split at e <;> cases e
    rename_i i hl
    obtain ⟨v, r, rfl, h1, h2⟩ := t.cons_inv
    rw [h2.nil_inv]
    refine ⟨_, call_str_int, i, by rw [rp_int_inv h1], hl, q ρ _ H (Stp.refl hh) ?_⟩
    rw [str_figs]
    exact rp_str (figs_lt i)
  · cases e
    obtain ⟨v, r, rfl, h1, h2⟩ := t.cons_inv
    rw [h2.nil_inv]
    refine ⟨_, SkE.call_str_str, _, by rw [(rp_str_inv h1).1], q ρ _ H (Stp.refl hh) (rp_str (rp_str_inv h1).2)⟩
  · cases e
/-- the number that figures write -/
def figsVal (s : List Nat) : Option Int := if s ≠ [] ∧ s.length ≤ 640 ∧ (s.all fun c => decide (48 ≤ c) && decide (c ≤ 57)) = true then some ((s.foldl (fun acc c => acc * 10 + (c - 48)) 0 : Nat) : Int) else none
def fInt : OpL
  | [.int i], M => some (.int i, M)
  | [.bl b], M => some (.int (if b then 1 else 0), M)
  | [.str s], M => (figsVal s).map fun n => (.int n, M)
  | _, _ => none
theorem cg_int : CallG T N sc k cm (.type "int") fInt := by
  refine callG_of fun X gd ρ M H ds d M' xs hh t e Q q => ?_
  unfold fInt at e
  split at e
  · cases e
    obtain ⟨v, r, rfl, h1, h2⟩ := t.cons_inv
    rw [h2.nil_inv]
    exact ⟨_, call_int1, .inl ⟨_, by rw [rp_int_inv h1], q ρ _ H (Stp.refl hh) rp_int⟩⟩
  · cases e
    obtain ⟨v, r, rfl, h1, h2⟩ := t.cons_inv
    rw [h2.nil_inv]
    exact ⟨_, call_int1, .inr ⟨_, by rw [rp_bl_inv h1], q ρ _ H (Stp.refl hh) rp_int⟩⟩
  · rename_i s
    obtain ⟨n, e1, e2⟩ := Option.map_eq_some_iff.mp e
    cases e2
    unfold figsVal at e1
    split at e1
    · rename_i hc
      cases e1
      obtain ⟨v, r, rfl, h1, h2⟩ := t.cons_inv
      rw [h2.nil_inv]
      refine ⟨_, call_int_str, _, _, by rw [(rp_str_inv h1).1], PySem.intText_digits (fun c hc2 => ?_) (by simpa using hc.1) (by rw [str_len]; omega), by rw [str_len]; exact hc.2.1, q ρ _ H (Stp.refl hh) ?_⟩
      · have := List.all_eq_true.mp hc.2.2 c (by simpa using hc2)
        simpa using this
      · have : PySem.NumText.digitsVal (⟨s.toArray⟩ : Str).cps.toList = s.foldl (fun acc c => acc * 10 + (c - 48)) 0 := by simp [PySem.NumText.digitsVal]
        rw [this]
        exact rp_int
    · cases e1
  · cases e
def fBool : OpL
  | [.int i], M => some (.bl (i != 0), M)
  | [.bl b], M => some (.bl b, M)
  | _, _ => none
theorem cg_bool : CallG T N sc k cm (.type "bool") fBool := by
  refine callG_of fun X gd ρ M H ds d M' xs hh t e Q q => ?_
  unfold fBool at e
  split at e
  · cases e
    obtain ⟨v, r, rfl, h1, h2⟩ := t.cons_inv
    rw [h2.nil_inv]
    exact ⟨_, call_bool1, .inl ⟨_, by rw [rp_int_inv h1], q ρ _ H (Stp.refl hh) rp_bl⟩⟩
  · cases e
    obtain ⟨v, r, rfl, h1, h2⟩ := t.cons_inv
    rw [h2.nil_inv]
    exact ⟨_, call_bool1, .inr ⟨_, by rw [rp_bl_inv h1], q ρ _ H (Stp.refl hh) rp_bl⟩⟩
  · cases e
/-- what a list or a tuple holds -/
def itemsD (d : D) (M : Hh) : Option (List D) := match d with
  | .tup xs => some xs
  | .frz xs => some xs
  | .loc l => match M[l]? with
    | some (.lst xs) => some xs
    | _ => none
  | _ => none
theorem items_seq {ρ : List Addr} {M : Hh} {H : Hp} {d : D} {v : V} {xs : List D} (hh : HeapR T ρ M H) (r : Rp T ρ H d v) (h : itemsD d M = some xs) : ∃ a vs, v = .ref a ∧ (SqL T.K H a vs ∨ SqT T.K H a vs) ∧ Rps T ρ H xs vs := by
  unfold itemsD at h
  split at h
  · cases h
    obtain ⟨a, vs, rfl, s1, t1⟩ := rp_tup_inv r
    exact ⟨a, vs, rfl, .inr s1, t1⟩
  · cases h
    obtain ⟨a, vs, rfl, s1, t1⟩ := rp_frz_inv r
    exact ⟨a, vs, rfl, .inl s1.sq, t1⟩
  · split at h
    · rename_i em
      cases h
      obtain ⟨a, rfl, _, vs, e1, t1⟩ := hh.at_ r em
      exact ⟨a, vs, rfl, .inl (SqL.of e1), t1⟩
    · cases h
  · cases h
def fTuple : OpL
  | [d], M => (itemsD d M).map fun xs => (.tup xs, M)
  | _, _ => none
theorem cg_tuple : CallG T N sc k cm (.type "tuple") fTuple := by
  refine callG_of fun X gd ρ M H ds d M' xs hh t e Q q => ?_
  unfold fTuple at e
  split at e
  · obtain ⟨ys, e1, e2⟩ := Option.map_eq_some_iff.mp e
    cases e2
    obtain ⟨v, r, rfl, h1, h2⟩ := t.cons_inv
    rw [h2.nil_inv]
    obtain ⟨a, vs, rfl, s1, t1⟩ := items_seq hh h1 e1
    refine ⟨_, call_tuple_of, a, vs, rfl, ?_⟩
    rcases s1 with s1 | s1
    · refine .inl ⟨by rw [gd.hK]; exact s1, fun l nl => ?_⟩
      have st := Stp.side (u := .tup vs) hh nl
      exact q ρ _ _ st (rp_tup (SqT.of upd_same) (t1.stp st))
    · exact .inr ⟨by rw [gd.hK]; exact s1, q ρ _ H (Stp.refl hh) (rp_tup s1 t1)⟩
  · cases e
def fList : OpL
  | [d], M => (itemsD d M).map fun xs => (.loc M.length, M ++ [.lst xs])
  | _, _ => none
theorem cg_list : CallG T N sc k cm (.type "list") fList := by
  refine callG_of fun X gd ρ M H ds d M' xs hh t e Q q => ?_
  unfold fList at e
  split at e
  · obtain ⟨ys, e1, e2⟩ := Option.map_eq_some_iff.mp e
    cases e2
    obtain ⟨v, r, rfl, h1, h2⟩ := t.cons_inv
    rw [h2.nil_inv]
    obtain ⟨a, vs, rfl, s1, t1⟩ := items_seq hh h1 e1
    refine ⟨_, call_list_of, a, vs, rfl, by rw [gd.hK]; exact s1, fun l nl => ?_⟩
    have st := Stp.alloc (u := .lst vs) (o := .lst ys) hh nl fun pf => ⟨vs, upd_same, t1.mono pf (Ext.new nl)⟩
    exact q _ _ _ st (loc_new hh)
  · cases e
/-- a list of bools -/
def blsD : List D → Option (List Bool)
  | [] => some []
  | .bl b :: r => (blsD r).map (b :: ·)
  | _ => none
theorem bls_vals {ρ : List Addr} {H : Hp} : ∀ {xs : List D} {vs : List V} {bs : List Bool}, Rps T ρ H xs vs → blsD xs = some bs → vs = bs.map V.bl
  | [], _, _, t, h => by cases h; exact t.nil_inv
  | d :: xs, _, bs, t, h => by
    obtain ⟨v, r, rfl, h1, h2⟩ := t.cons_inv
    cases d with
    | bl b =>
      simp only [blsD] at h
      obtain ⟨c, e1, rfl⟩ := Option.map_eq_some_iff.mp h
      rw [rp_bl_inv h1, bls_vals h2 e1]
      rfl
    | _ => cases h
def lstL (d : D) (M : Hh) : Option (List D) := match d with
  | .frz xs => some xs
  | .loc l => match M[l]? with
    | some (.lst xs) => some xs
    | _ => none
  | _ => none
theorem lst_seq {ρ : List Addr} {M : Hh} {H : Hp} {d : D} {v : V} {xs : List D} (hh : HeapR T ρ M H) (r : Rp T ρ H d v) (h : lstL d M = some xs) : ∃ a vs, v = .ref a ∧ SqL T.K H a vs ∧ Rps T ρ H xs vs := by
  unfold lstL at h
  split at h
  · cases h
    obtain ⟨a, vs, rfl, s1, t1⟩ := rp_frz_inv r
    exact ⟨a, vs, rfl, s1.sq, t1⟩
  · split at h
    · rename_i em
      cases h
      obtain ⟨a, rfl, _, vs, e1, t1⟩ := hh.at_ r em
      exact ⟨a, vs, rfl, SqL.of e1, t1⟩
    · cases h
  · cases h
def fAll : OpL
  | [d], M => ((lstL d M).bind blsD).map fun bs => (.bl (bs.all fun b => b), M)
  | _, _ => none
def fAny : OpL
  | [d], M => ((lstL d M).bind blsD).map fun bs => (.bl (bs.any fun b => b), M)
  | _, _ => none
theorem cg_all : CallG T N sc k true (.builtin "all") fAll := by
  refine callG_of fun X gd ρ M H ds d M' xs hh t e Q q => ?_
  unfold fAll at e
  split at e
  · obtain ⟨bs, e1, e2⟩ := Option.map_eq_some_iff.mp e
    obtain ⟨ys, e3, e4⟩ := Option.bind_eq_some_iff.mp e1
    cases e2
    obtain ⟨v, r, rfl, h1, h2⟩ := t.cons_inv
    rw [h2.nil_inv]
    obtain ⟨a, vs, rfl, s1, t1⟩ := lst_seq hh h1 e3
    exact ⟨_, cr_all gd.calm, a, bs, rfl, by rw [gd.hK, ← bls_vals t1 e4]; exact s1, q ρ _ H (Stp.refl hh) rp_bl⟩
  · cases e
theorem cg_any : CallG T N sc k true (.builtin "any") fAny := by
  refine callG_of fun X gd ρ M H ds d M' xs hh t e Q q => ?_
  unfold fAny at e
  split at e
  · obtain ⟨bs, e1, e2⟩ := Option.map_eq_some_iff.mp e
    obtain ⟨ys, e3, e4⟩ := Option.bind_eq_some_iff.mp e1
    cases e2
    obtain ⟨v, r, rfl, h1, h2⟩ := t.cons_inv
    rw [h2.nil_inv]
    obtain ⟨a, vs, rfl, s1, t1⟩ := lst_seq hh h1 e3
    exact ⟨_, cr_any gd.calm, a, bs, rfl, by rw [gd.hK, ← bls_vals t1 e4]; exact s1, q ρ _ H (Stp.refl hh) rp_bl⟩
  · cases e
def fMax2 : OpL
  | [.int i, .int j], M => some (.int (if j > i then j else i), M)
  | _, _ => none
theorem cg_max2 : CallG T N sc k true (.builtin "max") fMax2 := by
  refine callG_of fun X gd ρ M H ds d M' xs hh t e Q q => ?_
  unfold fMax2 at e
  split at e
  · cases e
    obtain ⟨v, r, rfl, h1, h2⟩ := t.cons_inv
    obtain ⟨w, r, rfl, h3, h4⟩ := h2.cons_inv
    rw [h4.nil_inv]
    exact ⟨_, call_max2 gd.calm, _, _, by rw [rp_int_inv h1, rp_int_inv h3], q ρ _ H (Stp.refl hh) rp_int⟩
  · cases e
def fAbs : OpL
  | [.int i], M => some (.int (if i < 0 then -i else i), M)
  | _, _ => none
theorem cg_abs : CallG T N sc k cm (.builtin "abs") fAbs := by
  refine callG_of fun X gd ρ M H ds d M' xs hh t e Q q => ?_
  unfold fAbs at e
  split at e
  · cases e
    obtain ⟨v, r, rfl, h1, h2⟩ := t.cons_inv
    rw [h2.nil_inv]
    exact ⟨_, call_abs, _, by rw [rp_int_inv h1], q ρ _ H (Stp.refl hh) rp_int⟩
  · cases e
/-! ### repr of lists and tuples of plain data -/
def shownD (d : D) : List Nat := (toPy d).shown.cps.toList
def reprOk (d : D) : Bool := (toPy d).showable && decide (dep d ≤ 100) && decide ((shownD d).length ≤ 16777216) && (shownD d).all fun c => decide (c < 1114112)
def isSeqD : D → Bool
  | .tup _ => true
  | .frz _ => true
  | _ => false
def fRepr : OpL
  | [d], M => match seeD M d with
    | some e => if isSeqD e && reprOk e then some (.str (shownD e), M) else none
    | none => none
  | _, _ => none
theorem reads_of {X : Cx} (gd : Good T N sc k true X) {pins : List (Addr × Obj)} {s : Shared} {σ : L2.St} {H : Hp} {ρ : List Addr} {M : Hh} {d e : D} {v : V} {u : Value} (I : Inv X pins σ H s) (hh : HeapR T ρ M H) (r : Rp T ρ H d v) (ru : RelV v u) (h : seeD M d = some e) (hs : isSeqD e = true) : ∃ a as, u = .ref a ∧ Reads s.heap u (toPy e) as := by
  obtain ⟨⟨as, q1⟩, _, _⟩ := see_reads gd I hh r ru h
  cases d with
  | loc l =>
    rw [Rp] at r
    obtain ⟨a, rfl, _⟩ := r
    exact ⟨a, as, ru, q1⟩
  | tup xs => obtain ⟨a, vs, rfl, _, _⟩ := rp_tup_inv r; exact ⟨a, as, ru, q1⟩
  | frz xs => obtain ⟨a, vs, rfl, _, _⟩ := rp_frz_inv r; exact ⟨a, as, ru, q1⟩
  | _ => simp only [seeD] at h; split at h <;> cases h <;> cases hs
theorem cg_repr : CallG T N sc k true (.builtin "repr") fRepr := by
  intro X gd pins s σ H xs us Q I r ⟨ρ, M, ds, d, M', hh, t, e, q⟩
  unfold fRepr at e
  split at e
  · split at e
    · rename_i e0 es
      split at e <;> cases e
      rename_i hc
      rw [Bool.and_eq_true] at hc
      unfold reprOk at hc
      simp only [Bool.and_eq_true, decide_eq_true_eq] at hc
      obtain ⟨hq, ⟨⟨c1, c2⟩, c3⟩, c4⟩ := hc
      obtain ⟨v, r2, rfl, h1, h2⟩ := t.cons_inv
      obtain rfl := h2.nil_inv
      obtain ⟨u, rfl, ru⟩ := Vals.one r
      obtain ⟨_, lay, _⟩ := see_reads gd I hh h1 ru es
      obtain ⟨a, as, rfl, rd⟩ := reads_of gd I hh h1 ru es hq
      have nd : (toPy e0).hasDict = false := PyData.hasDict_of_canLay _ lay
      obtain ⟨rm, gu⟩ := gd.room rfl
      have un := gd.un
      refine repr_of_reads' rd c1 (PyData.noDict_hsm nd) gu (by rw [depth_toPy]; omega) (fun _ _ z => z) (fun h' u tk hk => ⟨.str ⟨(shownD e0).toArray⟩, H, I.kept hk, ?_, q ρ _ H (Stp.refl hh) (rp_str fun c hc => ?_)⟩) (by rw [sl_eq]; exact c3)
      · refine ⟨u, ?_⟩
        show Value.str (toPy e0).shown u = Value.str ⟨(toPy e0).shown.cps.toList.toArray⟩ u
        rw [Array.toArray_toList]
      · exact of_decide_eq_true (List.all_eq_true.mp c4 c hc)
    · cases e
  · cases e

/-! ### methods -/
def mAppend : OpM := fun o ds M => match o, ds with
  | .loc l, [d] => match M[l]? with
    | some (.lst xs) => if xs.length < 16777216 then some (.non, M.set l (.lst (xs ++ [d]))) else none
    | _ => none
  | _, _ => none
theorem mg_append : MethG T N sc k cm "list.append" mAppend := by
  refine methG_of fun X gd ρ M H d0 ds d M' x xs hh r0 t e Q q => ?_
  unfold mAppend at e
  split at e
  · split at e
    · split at e <;> cases e
      rename_i em hl
      obtain ⟨v, r, rfl, h1, h2⟩ := t.cons_inv
      obtain rfl := h2.nil_inv
      obtain ⟨a, rfl, ea, vs, e1, t1⟩ := hh.at_ r0 em
      refine ⟨_, mt_append, a, vs, v, rfl, rfl, e1, by rw [t1.length, sl_eq]; exact hl, ?_⟩
      exact q ρ _ _ (Stp.put hh ea e1 (fun z => z) (OR.lst (t1.append (Rps.one h1)) ⟨_, e1, fun z => z⟩)) rp_non
    · cases e
  · cases e
def mPop : OpM := fun o ds M => match o, ds with
  | .loc l, [] => match M[l]? with
    | some (.lst xs) => (xs[xs.length - 1]?).map fun d => (d, M.set l (.lst xs.dropLast))
    | _ => none
  | _, _ => none
theorem mg_pop : MethG T N sc k cm "list.pop" mPop := by
  refine methG_of fun X gd ρ M H d0 ds d M' x xs hh r0 t e Q q => ?_
  unfold mPop at e
  split at e
  · split at e
    · rename_i ys em
      obtain ⟨y, e1, e2⟩ := Option.map_eq_some_iff.mp e
      cases e2
      obtain rfl := t.nil_inv
      obtain ⟨a, rfl, ea, vs, e3, t1⟩ := hh.at_ r0 em
      obtain ⟨v, h1, h2⟩ := t1.get e1
      refine ⟨_, mt_pop, a, vs, v, rfl, rfl, e3, by rw [t1.length]; exact h1, ?_⟩
      have st := Stp.put hh ea e3 (fun z => z) (OR.lst t1.dropLast ⟨_, e3, fun z => z⟩)
      exact q ρ _ _ st (h2.stp st)
    · cases e
  · cases e
/-- a list of texts -/
def strsD : List D → Option (List (List Nat))
  | [] => some []
  | .str s :: r => (strsD r).map (s :: ·)
  | _ => none
theorem strs_vals {ρ : List Addr} {H : Hp} : ∀ {xs : List D} {vs : List V} {ss : List (List Nat)}, Rps T ρ H xs vs → strsD xs = some ss → vs = (ss.map fun s => (⟨s.toArray⟩ : Str)).map V.str ∧ ∀ s ∈ ss, ∀ c ∈ s, c < 1114112
  | [], _, _, t, h => by cases h; exact ⟨t.nil_inv, fun _ z => by cases z⟩
  | d :: xs, _, bs, t, h => by
    obtain ⟨v, r, rfl, h1, h2⟩ := t.cons_inv
    cases d with
    | str s =>
      simp only [strsD] at h
      obtain ⟨c, e1, rfl⟩ := Option.map_eq_some_iff.mp h
      obtain ⟨i1, i2⟩ := strs_vals h2 e1
      obtain ⟨j1, j2⟩ := rp_str_inv h1
      rw [i1, j1]
      refine ⟨rfl, fun z hz => ?_⟩
      rcases List.mem_cons.mp hz with rfl | hz
      · exact j2
      · exact i2 z hz
    | _ => cases h
/-- texts with a mark between them -/
def joinD (sep : List Nat) : List (List Nat) → List Nat
  | [] => []
  | [x] => x
  | x :: y :: r => x ++ sep ++ joinD sep (y :: r)
def mJoin : OpM := fun o ds M => match o, ds with
  | .str sep, [d] => ((itemsD d M).bind strsD).bind fun ss => if (ss.map List.length).sum + ss.length * sep.length ≤ 16777216 then some (.str (joinD sep ss), M) else none
  | _, _ => none
/-- cut at each c -/
def splitD (c : Nat) : List Nat → List (List Nat)
  | [] => [[]]
  | x :: r => if x = c then [] :: splitD c r else match splitD c r with
    | [] => [[x]]
    | y :: ys => (x :: y) :: ys
def mSplit : OpM := fun o ds M => match o, ds with
  | .str s, [.str [c]] => if s.length + 2 ≤ 16777216 ∧ c < 256 then some (.loc M.length, M ++ [.lst ((splitD c s).map D.str)]) else none
  | _, _ => none
theorem splitD_cons (c : Nat) : ∀ l : List Nat, ∃ y ys, splitD c l = y :: ys
  | [] => ⟨[], [], rfl⟩
  | x :: r => by
    unfold splitD
    by_cases h : x = c
    · rw [if_pos h]; exact ⟨_, _, rfl⟩
    · rw [if_neg h]
      obtain ⟨y, ys, e⟩ := splitD_cons c r
      rw [e]; exact ⟨_, _, rfl⟩
theorem spl_split (c : Nat) : ∀ (l acc : List Nat), TL.spl [c] 0 acc l = match splitD c l with
    | [] => []
    | y :: ys => (acc ++ y) :: ys
  | [], acc => by simp [TL.spl_nil, splitD]
  | x :: r, acc => by
    obtain ⟨y, ys, e⟩ := splitD_cons c r
    by_cases h : x = c
    · subst h
      rw [TL.spl_hit (by simp [TL.pre])]
      have e2 : splitD x (x :: r) = [] :: splitD x r := by simp [splitD]
      rw [e2]
      have := spl_split x r []
      rw [e] at this
      simp only [List.nil_append] at this
      simp [this, e]
    · have hp : TL.pre [c] (x :: r) = false := by simp [TL.pre, h]
      rw [TL.spl_miss hp, spl_split c r (acc ++ [x])]
      have e2 : splitD c (x :: r) = (x :: y) :: ys := by simp [splitD, h, e]
      rw [e2, e]
      simp
theorem split_eq (s : List Nat) (c : Nat) (hc : c < 256) : Txt.split (⟨s.toArray⟩ : Str) (⟨#[c]⟩ : Str) = (splitD c s).map fun l => (⟨l.toArray⟩ : Str) := by
  refine TL.map_tl_inj ?_
  rw [TL.split_spl _ _ (by simp [TL.tl]) (TL.kind_ok (by simpa using hc))]
  have h1 : TL.tl (⟨#[c]⟩ : Str) = [c] := rfl
  have h2 : TL.tl (⟨s.toArray⟩ : Str) = s := by simp [TL.tl]
  rw [h1, h2, spl_split c s [], List.map_map]
  obtain ⟨y, ys, e⟩ := splitD_cons c s
  rw [e]
  have : (TL.tl ∘ fun l : List Nat => (⟨l.toArray⟩ : Str)) = _root_.id := by funext l; simp [TL.tl]
  rw [this]
  simp
theorem splitD_mem {c : Nat} : ∀ {s y : List Nat} {z : Nat}, y ∈ splitD c s → z ∈ y → z ∈ s
  | [], y, z, h, hz => by
    simp [splitD] at h; subst h; cases hz
  | x :: r, y, z, h, hz => by
    obtain ⟨w, ws, e⟩ := splitD_cons c r
    by_cases hx : x = c
    · simp only [splitD, hx, if_true] at h
      rcases List.mem_cons.mp h with rfl | h
      · cases hz
      · exact List.mem_cons_of_mem _ (splitD_mem h hz)
    · simp only [splitD, hx, if_false, e] at h
      rcases List.mem_cons.mp h with rfl | h
      · rcases List.mem_cons.mp hz with rfl | hz
        · exact List.mem_cons_self
        · exact List.mem_cons_of_mem _ (splitD_mem (c := c) (s := r) (y := w) (by rw [e]; exact List.mem_cons_self) hz)
      · exact List.mem_cons_of_mem _ (splitD_mem (c := c) (s := r) (y := y) (by rw [e]; exact List.mem_cons_of_mem _ h) hz)
theorem rps_strs {ρ : List Addr} {H : Hp} : ∀ {ss : List (List Nat)}, (∀ s ∈ ss, ∀ c ∈ s, c < 1114112) → Rps T ρ H (ss.map D.str) ((ss.map fun l => (⟨l.toArray⟩ : Str)).map V.str)
  | [], _ => Rps.nil
  | s :: ss, h => Rps.cons (rp_str (h s List.mem_cons_self)) (rps_strs fun z hz => h z (List.mem_cons_of_mem _ hz))
theorem mg_split : MethG T N sc k cm "str.split" mSplit := by
  refine methG_of fun X gd ρ M H d0 ds d M' x xs hh r0 t e Q q => ?_
  unfold mSplit at e
  split at e
  · split at e <;> cases e
    rename_i s c hl
    obtain ⟨v, r, rfl, h1, h2⟩ := t.cons_inv
    obtain rfl := h2.nil_inv
    obtain ⟨e1, o1⟩ := rp_str_inv r0
    obtain ⟨e2, _⟩ := rp_str_inv h1
    refine ⟨_, mt_split, _, _, e1, by rw [e2], rfl, by rw [str_len, sl_eq]; exact hl.1, fun p np => ?_⟩
    have e3 : Txt.split (⟨s.toArray⟩ : Str) (⟨[c].toArray⟩ : Str) = _ := split_eq s c hl.2
    rw [e3]
    have st := Stp.alloc (p := p) (u := .lst (((splitD c s).map fun l => (⟨l.toArray⟩ : Str)).map V.str)) (o := .lst ((splitD c s).map D.str)) hh np fun pf => ⟨_, upd_same, rps_strs fun y hy z hz => o1 z (splitD_mem hy hz)⟩
    exact q _ _ _ st (loc_new hh)
  · cases e
theorem joinD_mem {sep : List Nat} {c : Nat} : ∀ {ss : List (List Nat)}, c ∈ joinD sep ss → c ∈ sep ∨ ∃ s ∈ ss, c ∈ s
  | [], h => by cases h
  | [x], h => .inr ⟨x, List.mem_cons_self, h⟩
  | x :: y :: r, h => by
    simp only [joinD, List.mem_append] at h
    rcases h with (h | h) | h
    · exact .inr ⟨x, List.mem_cons_self, h⟩
    · exact .inl h
    · rcases joinD_mem h with h | ⟨s, h1, h2⟩
      · exact .inl h
      · exact .inr ⟨s, List.mem_cons_of_mem _ h1, h2⟩
theorem join_eqD (sep : List Nat) : ∀ ss : List (List Nat), Str.join (⟨sep.toArray⟩ : Str) (ss.map fun l => (⟨l.toArray⟩ : Str)) = ⟨(joinD sep ss).toArray⟩
  | [] => rfl
  | [x] => rfl
  | x :: y :: r => by
    show (⟨x.toArray⟩ : Str) ++ ⟨sep.toArray⟩ ++ Str.join (⟨sep.toArray⟩ : Str) ((y :: r).map fun l => (⟨l.toArray⟩ : Str)) = _
    rw [join_eqD sep (y :: r), str_app, str_app]
    rfl
theorem mg_join : MethG T N sc k cm "str.join" mJoin := by
  refine methG_of fun X gd ρ M H d0 ds d M' x xs hh r0 t e Q q => ?_
  unfold mJoin at e
  split at e
  · rename_i sep dl
    obtain ⟨ss, e1, e2⟩ := Option.bind_eq_some_iff.mp e
    obtain ⟨ys, e3, e4⟩ := Option.bind_eq_some_iff.mp e1
    split at e2 <;> cases e2
    rename_i hl
    obtain ⟨v, r, rfl, h1, h2⟩ := t.cons_inv
    obtain rfl := h2.nil_inv
    obtain ⟨i1, o1⟩ := rp_str_inv r0
    obtain ⟨a, vs, rfl, s1, t1⟩ := items_seq hh h1 e3
    obtain ⟨j1, j2⟩ := strs_vals t1 e4
    rw [← gd.hK, j1] at s1
    refine ⟨_, mt_join, _, a, ss.map fun s => (⟨s.toArray⟩ : Str), i1, rfl, s1, ?_, q ρ _ H (Stp.refl hh) ?_⟩
    · rw [List.map_map, List.length_map, str_len]
      have : ((fun z : Str => z.length) ∘ fun s : List Nat => (⟨s.toArray⟩ : Str)) = List.length := by funext l; simp [str_len]
      rw [this]
      exact hl
    · rw [TL.join_eq, join_eqD]
      refine rp_str fun c hc => ?_
      rcases joinD_mem hc with h | ⟨s, hs, h⟩
      · exact o1 c h
      · exact j2 s hs c h
  · cases e

/-! ### += -/
def opIadd : Op2
  | .int i, .int j, M => some (.int (i + j), M)
  | .str a, .str b, M => if a.length + b.length ≤ 16777216 then some (.str (a ++ b), M) else none
  | .loc l, .loc m, M => match M[l]?, M[m]? with
    | some (.lst xs), some (.lst ys) => if xs.length + ys.length ≤ 16777216 then some (.loc l, M.set l (.lst (xs ++ ys))) else none
    | _, _ => none
  | _, _, _ => none
theorem og_iadd : OpG T N sc k cm (inplaceOp .Add) opIadd := by
  refine opG_of fun X gd ρ M H d1 d2 d M' x y hh r1 r2 e Q q => ?_
  unfold opIadd at e
  split at e
  · cases e
    exact ⟨_, iop_add, _, _, rp_int_inv r1, rp_int_inv r2, q ρ _ H (Stp.refl hh) rp_int⟩
  · split at e <;> cases e
    rename_i a b hl
    obtain ⟨e1, o1⟩ := rp_str_inv r1
    obtain ⟨e2, o2⟩ := rp_str_inv r2
    refine ⟨_, iop_add_str, _, _, e1, e2, by rw [str_len, str_len, sl_eq]; exact hl, q ρ _ H (Stp.refl hh) ?_⟩
    rw [str_app]
    exact rp_str fun c hc => (List.mem_append.mp hc).elim (o1 c) (o2 c)
  · split at e
    · rename_i l m M xs ys e1 e2
      split at e <;> cases e
      rename_i hl
      obtain ⟨a, rfl, ea, vs, h1, t1⟩ := hh.at_ r1 e1
      obtain ⟨b, rfl, eb, us, h2, t2⟩ := hh.at_ r2 e2
      refine ⟨_, iop_ext, a, b, vs, us, rfl, rfl, h1, h2, by rw [t1.length, t2.length, sl_eq]; exact hl, ?_⟩
      have st := Stp.put hh ea h1 (fun z => z) (OR.lst (t1.append t2) ⟨_, h1, fun z => z⟩)
      exact q ρ _ _ st (r1.stp st)
    · cases e
  · cases e
def opIsub : Op2 := opSub
theorem og_isub : OpG T N sc k cm (inplaceOp .Sub) opSub := opG_int (C := fun _ _ => True) (F := fun i j => .int (i - j)) (fun X => rI_of0 iop_sub) (fun _ _ _ _ => rp_int) fun d1 d2 M z h => by
  unfold opSub at h; split at h <;> cases h
  exact ⟨_, _, rfl, rfl, trivial, rfl⟩
theorem og_imul : OpG T N sc k cm (inplaceOp .Mult) opMul := opG_int (C := CMul) (F := fun i j => .int (i * j)) (fun X => iop_mul) (fun _ _ _ _ => rp_int) fun d1 d2 M z h => by
  unfold opMul at h; split at h
  · split at h <;> cases h
    rename_i i j hc
    refine ⟨i, j, rfl, rfl, ?_, rfl⟩
    unfold CMul
    rcases hc with hc | hc
    · exact .inl ⟨by omega, by omega⟩
    · exact .inr ⟨by omega, by omega⟩
  · cases h
/-! ### -x -/
def vNeg (a : SMo D) : SMo D := fun env M => (a env M).bind fun d M1 => match d with
  | .int i => .ok (.int (-i)) M1
  | _ => .bad
theorem se_neg (ha : SE T N sc k cm a ma) : SE T N sc k cm (.UnaryOp .USub a pos) (vNeg ma) := fun X W g tk => by
  refine PE.imp (pe_un un_neg (ha X W g tk)) fun σ H Q h => ?_
  obtain ⟨ρ, env, M, he, hh, hd⟩ := h
  refine ⟨ρ, env, M, he, hh, Den.mono (Den.bind hd) fun v H1 ⟨ρ1, M1, d, s1, r1, q1⟩ => ?_⟩
  cases d with
  | int i => exact ⟨i, rp_int_inv r1, q1 ρ1 _ H1 (Stp.refl s1.hr) rp_int⟩
  | _ => exact q1.elim
end
end Gm

set_option Elab.async false
set_option linter.all false
set_option maxRecDepth 100000
set_option autoImplicit false
/-! Gi11: what loops walk: signs of a text, enumerate of lists and tuples; dicts and constants of the module -/
namespace Gm
open PySem PySem.Spec PyProof.Rows L2
section
set_option maxHeartbeats 1000000 in
theorem enumT_new (t : Addr) (items : Array Value) : Meets (Builtin.«enumerate.__new__» ⟨[.type "enumerate", .ref t], []⟩) (fun _ R s => s.heap.IsTuple t items ∧
    R (.ok (.ret (.ref (s.heap.objs.size + 1)))) { s with heap := (s.heap.push { cls := .type "tuple_iterator", data := .fields #[.ref t, .int 0 0] }).push { cls := .type "enumerate", data := .fields #[.none, .bool false, .ref s.heap.objs.size, rawInt 0, .none, .none] } }) :=
  .of_wp fun prog w A R s h => by
    obtain ⟨hp, g, d, tk, os⟩ := s
    obtain ⟨ht, h⟩ := h
    have sb := sub_enumerate
    have B := begins_tuple t items
    have it : ∀ {A' : Around} {E : Value → Shared → Prop} {Q : Value → Shared → Prop}, Q (.ref hp.objs.size) ⟨hp.push { cls := .type "tuple_iterator", data := .fields #[.ref t, .int 0 0] }, g, d, tk, os⟩ → wpAny (model prog w) A' (pyIter (.ref t)) Q E ⟨hp, g, d, tk, os⟩ := fun z => B.iter prog w _ _ ⟨hp, g, d, tk, os⟩ _ ht z
    have hz : (hp.push { cls := .type "tuple_iterator", data := .fields #[.ref t, .int 0 0] }).objs.size = hp.objs.size + 1 := Heap.size_push ..
    wp_walk using it
    refine wpAny_stack_any fun st => wpAny_pure ?_
    split
    · rename_i c _ _ _ _ _
      cases (c == Value.type "enumerate") <;> (wp_walk using it; exact ⟨_, rfl, by rw [← hz] at h; exact h⟩)
    · wp_walk using it
      exact ⟨_, rfl, by rw [← hz] at h; exact h⟩
theorem call_enumT {prog : Program} {w : World} {A : Around} {E : Value → Shared → Prop} {s : Shared} {t : Addr} {items : Array Value} {Q : Value → Shared → Prop} (ht : s.heap.IsTuple t items)
    (h : ∀ h', IsEnum h' (s.heap.objs.size + 1) s.heap.objs.size 0 .none → h'.IsTupleIter s.heap.objs.size t 0 → (∀ b o, s.heap.get? b = some o → h'.get? b = some o) → Q (.ref (s.heap.objs.size + 1)) { s with heap := h' }) :
    wpAny (model prog w) A (call (.type "enumerate") [.ref t]) Q E s := by
  refine callType_new F.called_enumerate (by decide) (F.typeCall_enumerate_1 _) (F.newCall_enumerate_1 _) (fun obj => F.args_object_init_2 obj _) F.entry_enumerate_new (enumT_new t items) ⟨ht, ?_⟩
  have e1 : (s.heap.push { cls := .type "tuple_iterator", data := .fields #[.ref t, .int 0 0] }).objs.size = s.heap.objs.size + 1 := Heap.size_push ..
  have k1 : ∀ {b : Addr} {o : Obj}, s.heap.get? b = some o → (s.heap.push { cls := .type "tuple_iterator", data := .fields #[.ref t, .int 0 0] }).get? b = some o := fun z => Heap.get?_push_of_some _ z
  have e2 := Heap.get?_push_size (s.heap.push { cls := .type "tuple_iterator", data := .fields #[.ref t, .int 0 0] }) (o := { cls := .type "enumerate", data := .fields #[.none, .bool false, .ref s.heap.objs.size, rawInt 0, .none, .none] }) rfl
  rw [e1] at e2
  exact ⟨⟨_, e2, rfl⟩, h _ e2 ⟨_, Heap.get?_push_of_some _ (Heap.get?_push_size _ rfl), rfl, rfl⟩ fun b o z => Heap.get?_push_of_some _ (k1 z)⟩
/-- the tuple at a, each item in a new pair -/
def Itet (K : PySem.W.Frag) (a : Addr) : It :=
  ⟨fun i H => ∃ (xs : List V) (x : V), SqT K H a xs ∧ xs[i]? = some x, fun i H v H' => ∃ T x, v = .ref T ∧ H T = none ∧ H' = upd H T (.tup [.int (i : Nat), x]) ∧ ∀ xs, SqT K H a xs → xs[i]? = some x, fun i H => ∃ xs : List V, SqT K H a xs ∧ xs.length = i⟩
theorem turn_enumT {P : Program} {w : World} {K : PySem.W.Frag} {elts : List Expr} {kk : Nat} {tpos : Pos} (a e it : Addr) :
    Turn P w K (.Tuple elts kk tpos) (Itet K a) [e, it] e (fun i h => ((∃ old, IsEnum h e it ((i : Nat) : Int) old) ∧ h.IsTupleIter it a i) ∧ e ≠ it ∧ a ≠ it ∧ a ≠ e) where
  mem := by simp
  obj := fun i h st b hb => by
    obtain ⟨⟨⟨old, he⟩, ⟨o, ho, hc, hd⟩⟩, _⟩ := st
    rcases (show b = e ∨ b = it by simpa using hb) with z | z
    · rw [z]; exact ⟨_, he, fun v q => nomatch q⟩
    · rw [z]; exact ⟨o, ho, fun v q => by rw [hd] at q; cases q⟩
  keep := fun i h h' st k => by
    obtain ⟨⟨⟨old, he⟩, hi⟩, r⟩ := st
    exact ⟨⟨⟨old, k e (by simp) _ he⟩, hi.at fun o q => k it (by simp) o q⟩, r⟩
  item := by
    intro X hP hw hK hc i pins s σ H E I hf st hg
    subst hP hw hK
    obtain ⟨⟨⟨old, he⟩, hit⟩, hne, h2, h3⟩ := st
    obtain ⟨xs, x, hq, hx⟩ := hg
    obtain ⟨its, rv, p, hz⟩ := I.tuple hq
    obtain ⟨u, hu, ru⟩ := rv.get hx
    have hu2 : its.toArray[i]? = some u := by simpa using hu
    have hel : e < s.heap.objs.size := Heap.lt_size he
    have hil : it < s.heap.objs.size := by obtain ⟨_, q, _⟩ := hit; exact Heap.lt_size q
    have hni : i < its.toArray.size := (Array.getElem?_eq_some_iff.mp hu2).1
    refine wpAny_pyNext_enum_itemD (Draws.tuple (prog := X.prog) (w := X.w) (A := X.A.in1) (I.ok.hd hc) it a h2 its.toArray) he ⟨hit, p⟩ hni hne (by simp; exact ⟨hne, fun z => h3 z.symm⟩) fun x' h' tk hpx ho hit' hT hsz hk => ?_
    have ex : x' = u := by
      have hpx : its.toArray[i]? = some x' := hpx
      rw [hu2] at hpx; exact (Option.some.inj hpx).symm
    subst ex
    refine ⟨_, rfl, wpAny_letOwnedTupleGo_enum (s := { s with heap := h', toks := tk + 1 }) ho fun h'' he' sb => ?_⟩
    have hT2 : h''.get? s.heap.objs.size = some { cls := .type "tuple", data := .seq #[.int i tk, x'] } := (sb.2 _ (Nat.ne_of_gt hel)).trans hT
    have new : ObjOk X.prog X.w (upd H s.heap.objs.size (.tup [.int (i : Nat), x])) h'' s.heap.objs.size (.tup [.int (i : Nat), x]) :=
      ⟨by show 2 ≤ sizeLine; decide, [.int i tk, x'], .cons ⟨_, rfl⟩ (.cons ru .nil), ⟨_, hT2, rfl, _, rfl⟩⟩
    have old : ∀ b ob, b ∉ [e, it] → s.heap.get? b = some ob → h''.get? b = some ob := fun b ob hb q => by
      simp only [List.mem_cons, List.not_mem_nil, or_false, not_or] at hb
      exact (sb.2 b hb.1).trans (hk b ob hb.1 hb.2 q)
    have I1 : Inv X pins σ (upd H s.heap.objs.size (.tup [.int (i : Nat), x])) { s with heap := h'', toks := tk + 1 } := I.turnedNew (ch := [e, it]) old hf (Nat.le_refl _) new
    refine ⟨.ref s.heap.objs.size, _, I1, rfl, ⟨_, x, rfl, I.hok.fresh (Nat.le_refl _), rfl, fun ys hy => by rw [I.tuple_inj hy hq]; exact hx⟩, ⟨⟨⟨x', ?_⟩, hit'.1.at fun o q => (sb.2 it (Ne.symm hne)).trans q⟩, hne, h2, h3⟩, fun b hb => ?_⟩
    · rw [show ((i + 1 : Nat) : Int) = (i : Int) + 1 by omega]; exact he'
    · have hb' : b < s.heap.objs.size := by
        rcases (show b = e ∨ b = it by simpa using hb) with z | z
        · rw [z]; exact hel
        · rw [z]; exact hil
      rw [upd_ne (Nat.ne_of_lt hb')]
      exact (hf b hb).1
  done := by
    intro X hP hw hK hc i pins s σ H E I hf st hg
    subst hP hw hK
    obtain ⟨⟨⟨old, he⟩, hit⟩, hne, h2, h3⟩ := st
    obtain ⟨xs, hq, hx⟩ := hg
    obtain ⟨its, rv, p, hz⟩ := I.tuple hq
    obtain ⟨f0, f1, f2, f3, f4, f5⟩ := hf it (by simp)
    have hl : i = its.toArray.size := by rw [List.size_toArray, ← rv.length]; exact hx.symm
    subst hl
    exact wpAny_pyNext_enum_endD (Draws.tuple (prog := X.prog) (w := X.w) (A := X.A.in1) (I.ok.hd hc) it a h2 its.toArray) he ⟨hit, p⟩ fun h' eb => ⟨rfl, I.turned (t' := s.toks) (fun b o hb q => eb b o hb q) f0 f1 f3 f4 f5⟩
  self := fun A i s Q E st h => by
    obtain ⟨⟨⟨_, he⟩, _⟩, _⟩ := st
    exact wpAny_pyIter_enum he h
end
section
def iEnumT (K : PySem.W.Frag) (ta : TA) : TI := fun σ H R => ta σ H fun vs H1 => ∃ a xs, vs = [.ref a] ∧ SqT K H1 a xs ∧ R (Itet K a) H1
theorem pi_enumT {X : Cx} {e : Expr} {ta : TA} {p pos tpos : Pos} {elts : List Expr} {kk : Nat} (hg : Gl X "enumerate") (hm : X.mg "enumerate" = none) (ha : PA X [e] ta) (hs : starEach [e] X.env = [(false, eval e X.env)] := by rfl) :
    PI X (.Tuple elts kk tpos) (.Call (.Name "enumerate" p) [e] [] pos) (iEnumT X.K ta) := by
  refine ⟨fun pins s σ H R I h => ?_⟩
  refine wpAny_Call_Name_kw (ld_blt I hg hm (u := .type "enumerate") (by decide +kernel) ?_)
  have go : wpAny (model X.prog X.w) X.A (spliced (backTo pos (starEach [e] X.env))) (fun us s1 => wpAny (model X.prog X.w) X.A (call (.type "enumerate") us) (fun v s2 => wpAny (model X.prog X.w) X.A (pyIter v) (PIE X pins σ (.Tuple elts kk tpos) R) X.xe s2) X.xe s1) X.xe s := by
    refine thn (ha.run pos pins s σ H _ I h) fun us s1 ⟨vs, H1, I1, r1, q1⟩ => ?_
    obtain ⟨a, xs, ex, hq, q⟩ := q1
    subst ex
    obtain ⟨u, rfl, ru⟩ := Vals.one r1
    cases ru
    obtain ⟨its, rv, pt, hz⟩ := I1.tuple hq
    have al : a < s1.heap.objs.size := by obtain ⟨o, ho, _⟩ := pt; exact Heap.lt_size ho
    refine call_enumT pt fun h' he hit hk => wpAny_pyIter_enum he ?_
    have I2 : Inv X pins σ H1 { s1 with heap := h' } := I1.kept (t' := s1.toks) hk
    refine ⟨s1.heap.objs.size + 1, [s1.heap.objs.size + 1, s1.heap.objs.size], _, _, H1, rfl, I2, turn_enumT a (s1.heap.objs.size + 1) s1.heap.objs.size, ⟨⟨⟨.none, he⟩, hit⟩, Nat.succ_ne_self _, Nat.ne_of_lt al, Nat.ne_of_lt (Nat.lt_succ_of_lt al)⟩, fun b hb => ?_, q⟩
    have hle : s1.heap.objs.size ≤ b := by
      rcases (show b = s1.heap.objs.size + 1 ∨ b = s1.heap.objs.size by simpa using hb) with z | z
      · rw [z]; exact Nat.le_succ _
      · rw [z]; exact Nat.le_refl _
    exact I1.fpOk hle (I1.hok.fresh hle)
  exact PyProof.Rows.callWith_type1 go hs rfl
end
section
variable {T : Tab} {N : List Str} {sc : Scope} {k : Nat} {cm : Bool} {e a b c o : Expr} {ma mb mc : SMo D} {es : List Expr} {pos p tpos : Pos} {x : Str} {kk : Nat}
/-- each sign of a text -/
def vIterS (a : SMo D) : SMo IterD := fun env M => (a env M).bind fun d M1 => match d with
  | .str s => .ok (fun i _ => some (s[i]?.map fun c => .str [c])) M1
  | _ => .bad
theorem si_str {tg : Expr} (ha : SE T N sc k cm a ma) : SI T N sc k cm tg a (vIterS ma) := fun X W gd tk => by
  refine PI.imp (pi_str (ha X W gd tk)) fun σ H R h => ?_
  obtain ⟨ρ, env, M, he, hh, hd⟩ := h
  refine ⟨ρ, env, M, he, hh, Den.mono (Den.bind hd) fun v H1 ⟨ρ1, M1, d, s1, r1, q1⟩ => ?_⟩
  cases d with
  | str s =>
    obtain ⟨rfl, o1⟩ := rp_str_inv r1
    refine ⟨_, rfl, q1 ρ1 _ H1 (Stp.refl s1.hr) fun i ρ M H hp hx hh => ?_⟩
    show match some (s[i]?.map fun c => D.str [c]) with | none => True | some none => _ | some (some d) => _
    cases e : s[i]? with
    | none =>
      show (⟨s.toArray⟩ : Str).cps.size ≤ i
      have := List.getElem?_eq_none_iff.mp e
      simpa using this
    | some c =>
      have hi : i < s.length := (List.getElem?_eq_some_iff.mp e).1
      refine ⟨by show i < (⟨s.toArray⟩ : Str).cps.size; simpa using hi, fun x H' ⟨h1, c', h2, h3⟩ => ?_⟩
      subst h1
      have h2 : s.toArray[i]? = some c' := h2
      have : c' = c := by
        rw [List.getElem?_toArray, e] at h2
        exact (Option.some.inj h2).symm
      subst this
      rw [h3]
      exact ⟨Stp.refl hh, rp_str fun z hz => by rw [List.mem_singleton.mp hz]; exact o1 c' (List.mem_of_getElem? e)⟩
  | _ => exact q1.elim
/-- i, x of a list (as it stands at each turn) or a tuple -/
def vEnum (a : SMo D) : SMo IterD := fun env M => (a env M).bind fun d M1 => match d with
  | .loc l => match M1[l]? with
    | some (.lst _) => .ok (fun i M => match M[l]? with
      | some (.lst xs) => some (xs[i]?.map fun d => .tup [.int (i : Int), d])
      | _ => none) M1
    | _ => .bad
  | _ => .bad
def vEnumT (a : SMo D) : SMo IterD := fun env M => (a env M).bind fun d M1 => match d with
  | .tup xs => .ok (fun i _ => if i ≤ xs.length then some (xs[i]?.map fun d => .tup [.int (i : Int), d]) else none) M1
  | _ => .bad
theorem si_enum {elts : List Expr} (hg : sc.names.lookup ("enumerate" : Str) = some .globalImplicit) (hm : T.mg ("enumerate" : Str) = none) (ha : SE T N sc k cm a ma) (hs : ∀ env, starEach [a] env = [(false, eval a env)] := by intro _; rfl) : SI T N sc k cm (.Tuple elts kk tpos) (.Call (.Name "enumerate" p) [a] [] pos) (vEnum ma) := fun X W gd tk => by
  refine PI.imp (pi_enum (X := X) (by show X.env.scope.names.lookup _ = _; rw [gd.hsc]; exact hg) (by rw [gd.hmg]; exact hm) (pa_cons (ha X W gd tk) pa_nil (by rw [hs]; rfl)) (hs _)) fun σ H R h => ?_
  obtain ⟨ρ, env, M, he, hh, hd⟩ := h
  refine ⟨ρ, env, M, he, hh, Den.mono (Den.bind hd) fun v H1 ⟨ρ1, M1, d, s1, r1, q1⟩ => ?_⟩
  cases d with
  | loc l =>
    simp only at q1
    split at q1
    · rename_i xs0 em
      obtain ⟨a, rfl, ea, vs0, h1, t1⟩ := s1.hr.at_ r1 em
      refine ⟨a, vs0, rfl, SqL.of h1, q1 ρ1 _ H1 (Stp.refl s1.hr) fun i ρ M H hp hx hh => ?_⟩
      have r2 := r1.mono hp hx
      show match (match M[l]? with | some (.lst xs) => some (xs[i]?.map fun d => D.tup [.int (i : Int), d]) | _ => none) with | none => True | some none => _ | some (some d) => _
      cases em2 : M[l]? with
      | none => trivial
      | some o =>
        cases o with
        | ins _ _ => trivial
        | dic _ => trivial
        | lst xs =>
          obtain ⟨a', ha', ea', vs, h2, t2⟩ := hh.at_ r2 em2
          cases ha'
          have sq : SqL X.K H a vs := SqL.of h2
          show match (some (xs[i]?.map fun d => D.tup [.int (i : Int), d])) with | none => True | some none => _ | some (some d) => _
          cases e : xs[i]? with
          | none => exact ⟨vs, sq, by rw [t2.length]; exact List.getElem?_eq_none_iff.mp e⟩
          | some d =>
            obtain ⟨w, h3, h4⟩ := t2.get e
            refine ⟨⟨vs, w, sq, h3⟩, fun x H' ⟨Ta, y, h5, h6, h7, h8⟩ => ?_⟩
            subst h5 h7
            have e3 := h8 vs sq
            rw [h3] at e3
            cases e3
            have st := Stp.side (u := .tup [.int (i : Nat), w]) hh h6
            exact ⟨st, rp_tup (SqT.of upd_same) (Rps.cons rp_int (Rps.one (h4.stp st)))⟩
    · exact q1.elim
  | _ => exact q1.elim
theorem si_enumT {elts : List Expr} (hg : sc.names.lookup ("enumerate" : Str) = some .globalImplicit) (hm : T.mg ("enumerate" : Str) = none) (ha : SE T N sc k cm a ma) (hs : ∀ env, starEach [a] env = [(false, eval a env)] := by intro _; rfl) : SI T N sc k cm (.Tuple elts kk tpos) (.Call (.Name "enumerate" p) [a] [] pos) (vEnumT ma) := fun X W gd tk => by
  refine PI.imp (pi_enumT (X := X) (by show X.env.scope.names.lookup _ = _; rw [gd.hsc]; exact hg) (by rw [gd.hmg]; exact hm) (pa_cons (ha X W gd tk) pa_nil (by rw [hs]; rfl)) (hs _)) fun σ H R h => ?_
  obtain ⟨ρ, env, M, he, hh, hd⟩ := h
  refine ⟨ρ, env, M, he, hh, Den.mono (Den.bind hd) fun v H1 ⟨ρ1, M1, d, s1, r1, q1⟩ => ?_⟩
  cases d with
  | tup xs =>
    obtain ⟨a, vs, rfl, f1, t1⟩ := rp_tup_inv r1
    refine ⟨a, vs, rfl, by rw [gd.hK]; exact f1, q1 ρ1 _ H1 (Stp.refl s1.hr) fun i ρ M H hp hx hh => ?_⟩
    have sq : SqT X.K H a vs := by rw [gd.hK]; exact sqt_ext hx f1
    show match (if i ≤ xs.length then some (xs[i]?.map fun d => D.tup [.int (i : Int), d]) else none) with | none => True | some none => _ | some (some d) => _
    by_cases hle : i ≤ xs.length
    · rw [if_pos hle]
      cases e : xs[i]? with
      | none => exact ⟨vs, sq, by rw [t1.length]; exact Nat.le_antisymm (List.getElem?_eq_none_iff.mp e) hle⟩
      | some d =>
        obtain ⟨w, h3, h4⟩ := t1.get e
        refine ⟨⟨vs, w, sq, h3⟩, fun x H' ⟨Ta, y, h5, h6, h7, h8⟩ => ?_⟩
        subst h5 h7
        have e3 := h8 vs sq
        rw [h3] at e3
        cases e3
        have st := Stp.side (u := .tup [.int (i : Nat), w]) hh h6
        exact ⟨st, rp_tup (SqT.of upd_same) (Rps.cons rp_int (Rps.one ((h4.mono hp hx).stp st)))⟩
    · rw [if_neg hle]; trivial
  | _ => exact q1.elim

/-! ### constants of the module -/
theorem gc_int {i : Int} {t : Tok} (h : T.mg x = some (.int i t)) : GC T x (.int i) := ⟨_, .int i, h, ⟨t, rfl⟩, fun _ _ => rp_int⟩
theorem gc_str {s : List Nat} {t : Tok} (h : T.mg x = some (.str ⟨s.toArray⟩ t)) (ho : (s.all fun c => decide (c < 1114112)) = true) : GC T x (.str s) := ⟨_, .str _, h, ⟨t, rfl⟩, fun _ _ => rp_str fun c hc => of_decide_eq_true (List.all_eq_true.mp ho c hc)⟩
/-- a tuple of texts and numbers that stands in the written part -/
inductive KLit : Value → D → Prop
  | int (i : Int) (t : Tok) : KLit (.int i t) (.int i)
  | str (s : List Nat) (t : Tok) (ho : (s.all fun c => decide (c < 1114112)) = true) : KLit (.str ⟨s.toArray⟩ t) (.str s)
inductive KLits : List Value → List D → Prop
  | nil : KLits [] []
  | cons {v : Value} {d : D} {vs : List Value} {ds : List D} (h : KLit v d) (t : KLits vs ds) : KLits (v :: vs) (d :: ds)
theorem KLits.rel {ρ : List Addr} {H : Hp} {us : List Value} {ds : List D} (h : KLits us ds) : ∃ vs : List V, Vals vs us ∧ Rps T ρ H ds vs := by
  induction h with
  | nil => exact ⟨[], .nil, Rps.nil⟩
  | @cons u d us ds h t ih =>
    obtain ⟨vs, h1, h2⟩ := ih
    cases h with
    | int i t => exact ⟨.int i :: vs, .cons ⟨t, rfl⟩ h1, Rps.cons rp_int h2⟩
    | str s t ho => exact ⟨.str ⟨s.toArray⟩ :: vs, .cons ⟨t, rfl⟩ h1, Rps.cons (rp_str fun c hc => of_decide_eq_true (List.all_eq_true.mp ho c hc)) h2⟩
theorem gc_tup {ad : Addr} {dd : Option Addr} {us : List Value} {n : Nat} {sl : Array (Option Value)} {ds : List D} (h : T.mg x = some (.ref ad)) (hl : T.K.lookup ad = some ⟨.type "tuple", dd, .seq us.toArray n, sl⟩) (hz : us.length ≤ 1000) (hk : KLits us ds) : GC T x (.tup ds) := by
  refine ⟨.ref ad, .ref ad, h, rfl, fun ρ H => ?_⟩
  obtain ⟨vs, h1, h2⟩ := hk.rel (T := T) (ρ := ρ) (H := H)
  exact rp_tup (.inr ⟨_, us.toArray, n, hl, rfl, rfl, by rw [sl_eq, List.size_toArray]; omega, by simpa using h1⟩) h2
/-- a def or class of the text as a value -/
theorem gc_fn {g : Nat} (h : T.mg x = some (.ref (T.adr g))) : GC T x (.fn g) := ⟨_, .ref (T.adr g), h, rfl, fun ρ H => by rw [Rp]⟩
theorem look_mem {s : List Nat} {z : D} : ∀ {tab : List (List Nat × D)}, tab.lookup s = some z → (s, z) ∈ tab
  | [], h => by cases h
  | (p1, p2) :: r, h => by
    simp only [List.lookup] at h
    split at h
    · rename_i hb
      have : s = p1 := by simpa using hb
      cases h
      rw [this]; exact List.mem_cons_self
    · exact List.mem_cons_of_mem _ (look_mem h)
/-- TABLE[key], TABLE a written dict of texts -/
def vKd (tab : List (List Nat × D)) (a : SMo D) : SMo D := fun env M => (a env M).bind fun d M1 => match d with
  | .str s => match tab.lookup s with
    | some z => .ok z M1
    | none => .bad
  | _ => .bad
theorem se_kd {tab : List (List Nat × D)} {ad : Addr} {es : Array DictEntry} {n : Nat} (hg : sc.names.lookup x = some .globalImplicit) (hm : T.mg x = some (.ref ad)) (hl : T.K.lookup ad = some ⟨.type "dict", none, .dict es n, #[]⟩) (hk : PySem.W.KeysLit T.w.params es.toList)
    (ht : ∀ p ∈ tab, ∃ u, PySem.W.nsIn T.K ad ⟨p.1.toArray⟩ = some (some u) ∧ KLit u p.2) (ha : SE T N sc k cm a ma) (hdb : (x == ("__debug__" : Str)) = false := by decide) (hs : PlainIx a := by intro _ _; rfl) : SE T N sc k cm (.Subscript (.Name x p) a pos) (vKd tab ma) := fun X W g tk => by
  refine PE.imp (pe_ix ix_kdict (pe_glob (X := X) (v := .ref ad) (by show X.env.scope.names.lookup x = _; rw [g.hsc]; exact hg) (by rw [g.hmg]; exact hm) rfl hdb) (ha X W g tk) hs) fun σ H Q h => ?_
  obtain ⟨ρ, env, M, he, hh, hd⟩ := h
  refine ⟨ρ, env, M, he, hh, Den.mono (Den.bind hd) fun v H1 ⟨ρ1, M1, d, s1, r1, q1⟩ => ?_⟩
  cases d with
  | str s =>
    simp only at q1
    split at q1
    · rename_i z ez
      have hz : (s, z) ∈ tab := look_mem ez
      obtain ⟨u, h1, h2⟩ := ht _ hz
      have hw : ∃ w, RelV w u ∧ ∀ ρ H, Rp T ρ H z w := by
        cases h2 with
        | int i t => exact ⟨.int i, ⟨t, rfl⟩, fun _ _ => rp_int⟩
        | str s t ho => exact ⟨.str ⟨s.toArray⟩, ⟨t, rfl⟩, fun _ _ => rp_str fun c hc => of_decide_eq_true (List.all_eq_true.mp ho c hc)⟩
      obtain ⟨w, r3, r4⟩ := hw
      refine ⟨ad, _, w, rfl, (rp_str_inv r1).1, ⟨es, n, u, by rw [g.hK]; exact hl, by rw [g.hw]; exact hk, by rw [g.hK]; exact h1, r3⟩, q1 ρ1 w H1 (Stp.refl s1.hr) (r4 _ _)⟩
    · exact q1.elim
  | _ => exact q1.elim
end
end Gm

set_option Elab.async false
set_option linter.all false
set_option maxRecDepth 100000
set_option autoImplicit false
/-! Gi12: the end: from what law's def does, by results, to the law's head -/
namespace Gm
open PySem PySem.Spec PyProof.Rows L2

theorem law_run {T : Tab} {mb : Str → Option Value} {k : Nat} {fa a : Addr} {F : Fn} {s : Shared} {vs : List Value} {ns : List Int}
    (kin : T.K.In s.heap) (gl : s.heap.Ns mainGlobals T.mg) (bl : s.heap.Ns builtinsNs mb) (bb : ∀ x : Str, x ≠ "__name__" → mb x = bootBuiltins x) (lim : s.heap.NoLimit) (gens : s.gens = #[])
    (at_ : s.heap.get? a = some { cls := .type "list", data := .seq vs.toArray }) (hin : IntsAre vs ns) (few : ns.length ≤ 63) (room : Room (2 * k) callerA)
    (G : ∀ base : Heap, T.K.In base → base.Ns mainGlobals T.mg → FnA { T with base := base } k fa 1 F)
    (res : ∃ M', F [.frz (ns.map D.int)] [] = .ok (.bl true) M') :
    codeAny (model T.P T.w) callerA (.call (.ref fa) ⟨[.ref a], []⟩) (fun r s' => r = .ok (.ret (.bool true)) ∧ OldK s.heap s'.heap ∧ s'.os = s.os ∧ AllBare s'.gens) s := by
  have vals := vals_ints hin
  have nlen := hin.length
  obtain ⟨ob, hob⟩ : ∃ ob : Obj, ob = { cls := .type "list", data := .seq vs.toArray } := ⟨_, rfl⟩
  obtain ⟨H, hH⟩ : ∃ H : Hp, H = fun b => if b = a ∧ T.K.lookup a = none then some (.frz ob (.lst (ns.map V.int))) else none := ⟨_, rfl⟩
  have hat : ∀ b, H b = none ∨ (b = a ∧ T.K.lookup a = none ∧ H b = some (.frz ob (.lst (ns.map V.int)))) := fun b => by
    by_cases h : b = a ∧ T.K.lookup a = none
    · exact .inr ⟨h.1, h.2, by rw [hH]; exact if_pos h⟩
    · exact .inl (by rw [hH]; exact if_neg h)
  have small : (ns.map V.int).length ≤ sizeLine := by rw [List.length_map, sl_eq]; omega
  have hok : HOk T.P T.w H s.heap := fun b u z => by
    rcases hat b with n | ⟨rfl, _, e⟩
    · rw [n] at z; cases z
    · rw [e] at z; cases z
      exact ⟨by rw [hob]; exact at_, small, vs, _, vals, at_⟩
  have hfrz : FrzL T.K H a (ns.map V.int) := by
    cases hk : T.K.lookup a with
    | some o =>
      have z := kin a o hk
      rw [at_] at z
      cases z
      exact .inr ⟨_, vs.toArray, _, hk, rfl, rfl, rfl, by rw [List.size_toArray, sl_eq]; omega, by simpa using vals⟩
    | none =>
      refine .inl ⟨ob, ?_⟩
      rw [hH]
      exact if_pos ⟨rfl, hk⟩
  have keepB : ∀ {b : Addr} {o : Obj}, s.heap.get? b = some o → H b = none → (hidT s.heap H).get? b = some o := fun e n => hidT_get e n
  have bare : ∀ {b : Addr} {m : Str → Option Value}, s.heap.Ns b m → (hidT s.heap H).Ns b m := by
    rintro b m ⟨o, es, ep, e, d, r⟩
    refine ⟨o, es, ep, keepB e ?_, d, r⟩
    rcases hat b with n | ⟨rfl, _, _⟩
    · exact n
    · rw [at_] at e; cases e; cases d
  have kin2 : T.K.In (hidT s.heap H) := fun b o e => keepB (kin b o e) (by
    rcases hat b with n | ⟨rfl, hk, _⟩
    · exact n
    · rw [hk] at e; cases e)
  have md : Mod T.K T.mg (hidT s.heap H) := ⟨kin2, bare gl, ⟨mb, bare bl, bb⟩, by obtain ⟨mc, h1, h2⟩ := lim; exact ⟨mc, bare h1, h2⟩⟩
  have e0 : Env0 T.P T.w T.K T.mg (hidT s.heap H) callerA [] s H := { frames := rfl, mod := md, bs := fun b o e => of_hidT e, bsz := Nat.le_of_eq (hidT_size _ _), funs := trivial, frf := fun b hb => absurd (show b ∈ ([] : List Addr) from hb) (by simp), hok := hok, bare := .of_eq gens }
  obtain ⟨M', hF⟩ := res
  have rps : Rps { T with base := hidT s.heap H } [] H [D.frz (ns.map D.int)] [V.ref a] := by
    refine Rps.one ?_
    rw [Rp]
    refine ⟨a, _, rfl, hfrz, ?_⟩
    have key : ∀ ms : List Int, Rps { T with base := hidT s.heap H } [] H (ms.map D.int) (ms.map V.int) := by
      intro ms
      induction ms with
      | nil => exact Rps.nil
      | cons m ms ih => exact Rps.cons rp_int ih
    exact key ns
  have sp : spF { T with base := hidT s.heap H } 1 F [V.ref a] H (fun v _ => v = .bl true) (fun _ _ _ => False) := by
    refine ⟨rfl, [], [], [.frz (ns.map D.int)], ⟨rfl, fun l o b e => ?_, fun l l' b e => ?_⟩, rps, ?_⟩
    · simp at e
    · simp at e
    · rw [hF]
      exact fun ρ' v H' st r => rp_bl_inv r
  obtain ⟨fd, ps, kp, hb, hn, G'⟩ := (G _ kin2 (bare gl)).ex
  have hbt := hb s [.ref a] kin (by rw [hn]; rfl)
  refine codeAny_mono (G'.run callerA [] s H ⟨[.ref a], []⟩ [.ref a] [.ref a] _ _ room rfl e0 hbt (.cons rfl .nil) sp) fun r s' h => ?_
  cases r with
  | error e =>
    obtain ⟨_, _, _, _, _, _, _, _, _, _, _, _, z⟩ := h
    exact z.elim
  | ok fl =>
    cases fl with
    | next => exact False.elim h
    | brk => exact False.elim h
    | cont => exact False.elim h
    | ret u =>
      obtain ⟨v, H', os, br, un, hok', r', q⟩ := h
      have q : v = .bl true := q
      subst q
      obtain rfl : u = Value.bool true := r'
      refine ⟨rfl, OldK.of_keep fun b o e => ?_, os, br⟩
      rcases hat b with n | ⟨rfl, _, z⟩
      · exact un.keep b o e n (by intro z; exact absurd (show b ∈ ([] : List Addr) from z) (by simp)) (by simp)
      · have z2 := un.frzs b ob _ z
        obtain ⟨e2, _⟩ := hok' b _ z2
        rw [at_] at e; cases e
        rw [← hob]; exact e2
/-- the goal that the head leaves, from what law's def does by results -/
theorem law_walk {l : PySem.W.OpenLaw} {k : Nat} {q : Program} {loose : List Str} {XP : (Str → Option Value) → Heap → Prop} {YP : World → Heap → Prop} {d : DefRec} {K : Params → PySem.W.Frag} {F : Fn}
    (hn : l.most = some 63) (hdf : d.params.defaults = []) (hr : Room (2 * k) callerA) (hY : ∀ (w : World) (h : Heap), YP w h → (K w.params).In h)
    (hF : ∀ (w : World) (mg : Str → Option Value) (fa : Addr) (h : Heap), (K w.params).In h → h.Ns mainGlobals mg → mg d.name = some (.ref fa) →
      ∃ T : Tab, T.P = l.prog ∧ T.w = w ∧ T.K = K w.params ∧ T.mg = mg ∧ ∀ base : Heap, (K w.params).In base → base.Ns mainGlobals mg → FnA { T with base := base } k fa 1 F)
    (res : ∀ ns : List Int, ns.length ≤ 63 → ∃ M', F [.frz (ns.map D.int)] [] = .ok (.bl true) M') :
    PySem.W.WalkO q loose XP YP l.row.toRowW d [] (fun f vs => PySem.call f vs) := by
  refine Att.attach_call hn hdf fun w s₀ s₁ mg mb fa o pm cd doc a vs ns G Y ho hd hcd hmg hobj hints hlen hg => ?_
  obtain ⟨T, e1, e2, e3, e4, hG⟩ := hF w mg fa _ (hY w _ Y) G.T.g hmg
  have := law_run (T := T) (F := F) (k := k) (fa := fa) (by rw [e3]; exact hY w _ Y) (by rw [e4]; exact G.T.g) G.T.b G.T.builtins G.T.nolimit hg hobj hints hlen hr (fun base h1 h2 => hG base (by rw [← e3]; exact h1) (by rw [← e4]; exact h2)) (res ns hlen)
  rw [e1, e2] at this
  exact this
end Gm

set_option Elab.async false
set_option linter.all false
set_option maxRecDepth 100000
set_option autoImplicit false
/-! Gi13: short forms that the printed texts use -/
namespace Gm
open PySem PySem.Spec PyProof.Rows L2

def scChk (N P : List Str) (sc : Scope) : Bool :=
  decide (sc.kind = .function) && (!sc.isCoroutine && (!sc.isGenerator && (decide N.Nodup && (decide (N.take P.length = P) && ((P.all fun x => decide (sc.names.lookup x = some .local) || decide (sc.names.lookup x = some .cell)) && sc.names.all fun y => decide (y.2 ≠ .free))))))
theorem fnScope_by {N P : List Str} {sc : Scope} (h : scChk N P sc = true) : FnScope N P sc := by
  unfold scChk at h
  simp only [Bool.and_eq_true, Bool.not_eq_true', decide_eq_true_eq, List.all_eq_true, Bool.or_eq_true] at h
  obtain ⟨h1, h2, h3, h4, h5, h6, h7⟩ := h
  exact { kind := h1, co := h2, gen := h3, nd := h4, pre := h5, par := h6, nofree := h7 }
/-- a name of the def: its slot -/
structure Nm (N : List Str) (sc : Scope) (x : Str) (i : Nat) : Prop where
  hN : N[i]? = some x
  hv : Vis sc x
  hd : (x == ("__debug__" : Str)) = false
  hc : (x == ("__classdict__" : Str)) = false
/-- .. that is stored -/
structure NmL (N : List Str) (sc : Scope) (x : Str) (i : Nat) : Prop where
  hN : N[i]? = some x
  hl : L2.Loc sc x
def nmC (N : List Str) (sc : Scope) (x : Str) (i : Nat) : Bool :=
  decide (N[i]? = some x) && (decide (sc.names.lookup x = some .local) || decide (sc.names.lookup x = some .cell) || decide (sc.names.lookup x = some .free)) && decide ((x == ("__debug__" : Str)) = false) && decide ((x == ("__classdict__" : Str)) = false)
theorem nm_by {N : List Str} {sc : Scope} {x : Str} {i : Nat} (h : nmC N sc x i = true) : Nm N sc x i := by
  unfold nmC at h
  simp only [Bool.and_eq_true, Bool.or_eq_true, decide_eq_true_eq] at h
  obtain ⟨⟨⟨h1, h2⟩, h3⟩, h4⟩ := h
  refine ⟨h1, ?_, h3, h4⟩
  rcases h2 with (h2 | h2) | h2
  · exact .inl h2
  · exact .inr (.inl h2)
  · exact .inr (.inr h2)
def nmlC (N : List Str) (sc : Scope) (x : Str) (i : Nat) : Bool := decide (N[i]? = some x) && (decide (sc.names.lookup x = some .local) || decide (sc.names.lookup x = some .cell))
theorem nml_by {N : List Str} {sc : Scope} {x : Str} {i : Nat} (h : nmlC N sc x i = true) : NmL N sc x i := by
  unfold nmlC at h
  simp only [Bool.and_eq_true, Bool.or_eq_true, decide_eq_true_eq] at h
  exact ⟨h.1, h.2⟩
section
variable {T : Tab} {N : List Str} {sc scope : Scope} {k : Nat} {cm : Bool} {e a b : Expr} {ma mb : SMo D} {pos p p' : Pos} {x y : Str}
theorem se_v {i : Nat} (n : Nm N sc x i) : SE T N sc k cm (.Name x pos) (vVar i) := se_var i n.hN n.hv n.hd n.hc
theorem sg_v {i : Nat} (n : NmL N sc x i) : SG T N sc k cm (.Name x pos) (gName i) := sg_name i n.hN n.hl
theorem ss_v {i : Nat} (n : NmL N sc x i) (ha : SE T N sc k cm e ma) (hs : ∀ env, swapsWith e (some (.Name x p')) pos.line env = pure false := by intro _; rfl) : SS T N sc k cm (.Assign [.Name x p'] e pos) (sAsg ma (gName i)) := ss_set i n.hN n.hl ha hs
theorem ss_augv {i : Nat} {op : Operator} {f : Op2} (n : NmL N sc x i) (ho : OpG T N sc k cm (inplaceOp op) f) (ha : SE T N sc k cm e ma) : SS T N sc k cm (.AugAssign (.Name x p') op e pos) (sAug i f ma) := ss_aug i n.hN n.hl ha ho
theorem sw_par {px py pt pt2 : Pos} {kt k2 : Nat} (hk : sc.kind = .function) (hx : sc.names.lookup x = some .local) (hy : sc.names.lookup y = some .local) (ne : x ≠ y) (hl : (px.line == py.line) = true := by rfl)
    (hst : ([a, b].any fun | .Starred .. => true | _ => false) = false := by rfl) (hf : ([a, b].all (foldedForSure 8)) = false := by rfl) (hc : ([a, b].all (constantsAlone 8)) = false := by rfl) :
    ∀ env : Env, env.scope = sc → swappedStores [.Tuple [.Name x px, .Name y py] kt pt] (.Tuple [a, b] k2 pt2) env = pure (some [x, y]) := fun env h => by
  have kx : env.kindOf x = some .local := by show env.scope.names.lookup x = _; rw [h]; exact hx
  have ky : env.kindOf y = some .local := by show env.scope.names.lookup y = _; rw [h]; exact hy
  have kb : env.blockKind = .function := by unfold Env.blockKind; rw [h, hk]; rfl
  have l1 : py.line = px.line := (eq_of_beq hl).symm
  have hyx : (y == x) = false := by simpa using fun z : y = x => ne z.symm
  have e1 : [x, y].eraseDups = [x, y] := by
    have : y ≠ x := fun z => ne z.symm
    simp [List.eraseDups_cons, this]
  unfold swappedStores
  simp only [kb, hst, hf, hc]
  simp [kx, ky, Expr.pos, l1, e1]
  simp only [List.any_cons, List.any_nil, Bool.or_false, Bool.or_eq_false_iff] at hst
  obtain ⟨h1, h2⟩ := hst
  intro z
  rcases z with z | z
  · exact absurd (show true = false from z.symm.trans h1) (by decide)
  · exact absurd (show true = false from z.symm.trans h2) (by decide)
theorem ss_parv {i j : Nat} {px py pt pt2 : Pos} {kt k2 : Nat} (nx : NmL N sc x i) (ny : NmL N sc y j) (hij : i ≠ j) (hk : sc.kind = .function) (hx : sc.names.lookup x = some .local) (hy : sc.names.lookup y = some .local) (ne : x ≠ y) (ha : SE T N sc k true a ma) (hb : SE T N sc k true b mb) (hl : (px.line == py.line) = true := by rfl)
    (hst : ([a, b].any fun | .Starred .. => true | _ => false) = false := by rfl) (hf : ([a, b].all (foldedForSure 8)) = false := by rfl) (hc : ([a, b].all (constantsAlone 8)) = false := by rfl)
    (hs : ∀ env, swapsWithSole [.Tuple [.Name x px, .Name y py] kt pt] (.Tuple [a, b] k2 pt2) pos.line env = pure false := by intro _; rfl)
    (h1 : ∀ env, starEach [a, b] env = [(false, eval a env), (false, eval b env)] := by intro _; rfl) (h2 : ∀ env, starEach [b] env = [(false, eval b env)] := by intro _; rfl) :
    SS T N sc k true (.Assign [.Tuple [.Name x px, .Name y py] kt pt] (.Tuple [a, b] k2 pt2) pos) (sPar i j ma mb) :=
  ss_par i j nx.hN ny.hN hij hx hy ha hb (sw_par hk hx hy ne hl hst hf hc) hs h1 h2
theorem tg_v {i : Nat} (hN : N[i]? = some x) (hx : scope.names.lookup x = some .local ∨ scope.names.lookup x = some .cell) : TgOk T N sc scope k (.Name x pos) (.one i) := tg_name i hN hx
end
/-! ### own errors, their clauses -/
structure ErrK (T : Tab) (c : Nat) (xs : List Str) (js : List (Nat × Nat)) : Prop where
  ex : ∃ (fI : Addr) (qual sv : Str) (fs : EF), ErrIn T.P T.K T.mg (T.adr c) fI qual sv xs fs ∧ Paired (fun p q => T.nm q.1 = p.1 ∧ xs[q.2]? = some p.2.1) fs js ∧ fs ≠ [] ∧ fs.length ≤ 900
  kp : PySem.W.keepIn T.K (.ref (T.adr c)) = true
def mtOf (l : List (Nat × Bool)) : Nat → Option Bool := fun c => l.lookup c
def AllP {α : Type} (P : α → Prop) : List α → Prop
  | [] => True
  | a :: l => P a ∧ AllP P l
theorem mt_ok {K : PySem.W.Frag} {g : Nat → Addr} {cx : Value} : ∀ {l : List (Nat × Bool)}, AllP (fun p => PySem.W.exmOne K (.ref (g p.1)) cx = some p.2) l → ∀ c b, mtOf l c = some b → PySem.W.exmOne K (.ref (g c)) cx = some b
  | [], _, c, b, h => by cases h
  | (i, x) :: l, ⟨h1, h2⟩, c, b, h => by
    unfold mtOf at h
    simp only [List.lookup] at h
    split at h
    · rename_i e
      cases h
      rw [show c = i from eq_of_beq e]; exact h1
    · exact mt_ok h2 c b h
section
variable {T : Tab} {N : List Str} {sc : Scope} {k : Nat} {e : Expr} {es : List Expr} {pos p p' : Pos} {x : Str} {mas : SMo (List D)} {c : Nat} {xs : List Str} {js : List (Nat × Nat)}
theorem ss_raiseK (E : ErrK T c xs js) (hg : sc.names.lookup x = some .globalImplicit) (hm : T.mg x = some (.ref (T.adr c))) (hdb : (x == ("__debug__" : Str)) = false) (ha : SAs T N sc k true (e :: es) mas)
    (he : ∀ env, starEach (e :: es) env = (false, eval e env) :: starEach es env := by intro _; rfl) (hpl : ∀ env, (backTo pos (starEach es env)).any (·.1) = false := by intro _; rfl) :
    SS T N sc k true (.Raise (some (.Call (.Name x p) (e :: es) [] pos)) none p') (sRaise c xs.length js mas) := by
  obtain ⟨fI, qual, sv, fs, h1, h2, h3, h4⟩ := E.ex
  exact ss_raise c js h1 h2 h3 h4 E.kp hg hm hdb ha he hpl
end
/-! ### names of attributes by numbers -/
def nmOf (l : List Str) (j : Nat) : Str := match l[j]? with
  | some x => x
  | none => ⟨#[0, j]⟩
theorem nmOf_inj {l : List Str} (nd : l.Nodup) (h0 : (l.all fun x => decide (x.cps[0]? ≠ some 0)) = true) : ∀ i j, nmOf l i = nmOf l j → i = j := by
  intro i j h
  unfold nmOf at h
  have z : ∀ {x : Str}, x ∈ l → x.cps[0]? ≠ some 0 := fun hx => of_decide_eq_true (List.all_eq_true.mp h0 _ hx)
  cases hi : l[i]? with
  | some x =>
    rw [hi] at h
    cases hj : l[j]? with
    | some y =>
      rw [hj] at h
      have h : x = y := h
      subst h
      have li : i < l.length := (List.getElem?_eq_some_iff.mp hi).1
      exact (List.getElem?_inj li nd).mp (hi.trans hj.symm)
    | none =>
      rw [hj] at h
      have h : x = ⟨#[0, j]⟩ := h
      exact absurd (by rw [h]; rfl) (z (List.mem_of_getElem? hi))
  | none =>
    rw [hi] at h
    cases hj : l[j]? with
    | some y =>
      rw [hj] at h
      have h : (⟨#[0, i]⟩ : Str) = y := h
      exact absurd (by rw [← h]; rfl) (z (List.mem_of_getElem? hj))
    | none =>
      rw [hj] at h
      have h : (⟨#[0, i]⟩ : Str) = ⟨#[0, j]⟩ := h
      injection h with h
      injection h with h
      injection h with _ h
      injection h with h _
/-- a def of the text: as it stands, how its arguments bind -/
def FunK (T : Tab) (i : Nat) (x qual : Str) (st : Stmt) (ps : List Str) : Prop := ∃ fd, Fun T.K x qual st (T.adr i) fd ∧ Binds T.K fd ps []
theorem fnA_K {T : Tab} {i : Nat} {k : Nat} {x qual : Str} {st : Stmt} {N ps : List Str} {m : SMs} (F : FunK T i x qual st ps) (S : FnScope N ps (defScope st)) (hb : SB T N (defScope st) k true (defBody st) m) : FnA T (k + 1) (T.adr i) ps.length (runF N.length m) := by
  obtain ⟨fd, h1, h2⟩ := F
  exact fnA_of h1 S h2 hb
theorem fnA_0 {T : Tab} {i : Nat} {x qual : Str} {st : Stmt} {ps : List Str} (F : FunK T i x qual st ps) : FnA T 0 (T.adr i) ps.length (fun _ _ => .bad) := by
  obtain ⟨fd, h1, h2⟩ := F
  exact fnA_zero h1 h2
end Gm

set_option Elab.async false
set_option linter.all false
set_option maxRecDepth 100000
set_option autoImplicit false
/-! Ev: what the combinators give, as rules for simp; what a call leaves of the heap -/
namespace Gm
section
variable {env : Ev} {M : Hh} {a b c : SMo D} {t u : SMo Bool} {as : SMo (List D)} {s r : SMs} {d : D}
@[simp] theorem ev_var (i : Nat) : vVar i env M = match env[i]? with | some (some d) => .ok d M | _ => .bad := rfl
@[simp] theorem ev_C : vC d env M = .ok d M := rfl
@[simp] theorem ev_nil : vNil env M = .ok [] M := rfl
@[simp] theorem ev_cons : vCons a as env M = (a env M).bind fun d M1 => (as env M1).bind fun ds M2 => .ok (d :: ds) M2 := rfl
@[simp] theorem ev_tup : vTup as env M = (as env M).bind fun ds M1 => if ds.length ≤ 16777216 then .ok (.tup ds) M1 else .bad := rfl
@[simp] theorem ev_lst : vLst as env M = (as env M).bind fun ds M1 => if ds.length ≤ 16777216 then .ok (.loc M1.length) (M1 ++ [.lst ds]) else .bad := rfl
@[simp] theorem ev_op (f : Op2) : vOp f a b env M = (a env M).bind fun x M1 => (b env M1).bind fun y M2 => Res.ofO (f x y M2) := rfl
@[simp] theorem ev_test : vTest a env M = (a env M).bind fun x M1 => match x with | .bl b => .ok b M1 | _ => .bad := rfl
@[simp] theorem ev_if : vIf t a b env M = (t env M).bind fun c M1 => match c with | true => a env M1 | false => b env M1 := rfl
@[simp] theorem ev_and : vAnd t u env M = (t env M).bind fun c M1 => match c with | true => u env M1 | false => .ok false M1 := rfl
@[simp] theorem ev_or : vOr t u env M = (t env M).bind fun c M1 => match c with | true => .ok true M1 | false => u env M1 := rfl
@[simp] theorem ev_not : vNot t env M = (t env M).bind fun c M1 => .ok (!c) M1 := rfl
@[simp] theorem ev_bl : vBl t env M = (t env M).bind fun c M1 => .ok (.bl c) M1 := rfl
@[simp] theorem ev_tru : vTru a env M = (a env M).bind fun x M1 => match truD x M1 with | some b => .ok b M1 | none => .bad := rfl
@[simp] theorem ev_andT : vAndT a b env M = (a env M).bind fun x M1 => match truD x M1 with | some true => b env M1 | some false => .ok x M1 | none => .bad := rfl
@[simp] theorem ev_orT : vOrT a b env M = (a env M).bind fun x M1 => match truD x M1 with | some true => .ok x M1 | some false => b env M1 | none => .bad := rfl
@[simp] theorem ev_chain (f g : Op2) : vChain f g a b c env M = (a env M).bind fun x M1 => (b env M1).bind fun y M2 => (Res.ofO (f x y M2)).bind fun z M3 => match z with
  | .bl true => (c env M3).bind fun w M4 => Res.ofO (g y w M4)
  | .bl false => .ok (.bl false) M3
  | _ => .bad := rfl
@[simp] theorem ev_isi (ty : Ty) : vIsi ty a env M = (a env M).bind fun d M1 => match tyOf d M1 with | some t => .ok (.bl (subTy t ty)) M1 | none => .bad := rfl
@[simp] theorem ev_b (F : OpL) : vB F as env M = (as env M).bind fun ds M1 => Res.ofO (F ds M1) := rfl
@[simp] theorem ev_m (ty : String) (F : OpM) : vM ty F a as env M = (a env M).bind fun x M1 => if tyM ty x M1 then (as env M1).bind fun ds M2 => Res.ofO (F x ds M2) else .bad := rfl
@[simp] theorem ev_neg : vNeg a env M = (a env M).bind fun d M1 => match d with | .int i => .ok (.int (-i)) M1 | _ => .bad := rfl
@[simp] theorem ev_no : vNo env M = .ok none M := rfl
@[simp] theorem ev_part : vPart a env M = (a env M).bind fun x M1 => match x with | .int i => .ok (some i) M1 | _ => .bad := rfl
@[simp] theorem ev_sl (lo hi : SMp) : vSl a lo hi env M = (a env M).bind fun x M1 => (lo env M1).bind fun l M2 => (hi env M2).bind fun h M3 => Res.ofO (slD x l h M3) := rfl
@[simp] theorem ev_kd (tab : List (List Nat × D)) : vKd tab a env M = (a env M).bind fun d M1 => match d with | .str s => (match tab.lookup s with | some z => .ok z M1 | none => .bad) | _ => .bad := rfl
@[simp] theorem ev_call (n : Nat) (F : Fn) : vCallN n F as env M = (as env M).bind fun ds M1 => if ds.length = n then F ds M1 else .bad := rfl
@[simp] theorem ev_fld (cs : List Nat) (j : Nat) : vFld cs j a env M = (a env M).bind fun x M1 => match getFld cs j x M1 with | some d => .ok d M1 | none => .bad := rfl
@[simp] theorem ev_meth (c j n : Nat) (F : Fn) : vMeth c j n F a as env M = (a env M).bind fun x M1 => match x with
  | .loc l => (match M1[l]? with
    | some (.ins c' fs) => if c' = c ∧ fs.lookup j = none then (as env M1).bind fun ds M2 => if ds.length + 1 = n then F (.loc l :: ds) M2 else .bad else .bad
    | _ => .bad)
  | _ => .bad := rfl
@[simp] theorem ev_make (c n : Nat) (F : Fn) : vMake c n F as env M = (as env M).bind fun ds M1 => if ds.length + 1 = n then (F (.loc M1.length :: ds) (M1 ++ [.ins c []])).bind fun r M2 => match r with | .non => .ok (.loc M1.length) M2 | _ => .bad else .bad := rfl
@[simp] theorem ev_comp (it : SMo IterD) (sh : TgS) (e : SMo D) (ws : List Nat) : vComp it sh t e ws env M = (it env M).bind fun J M1 => compF J sh t e M1.length (wipeE env ws) NN 0 (M1 ++ [.lst []]) := rfl
@[simp] theorem ev_iter : vIter a env M = (a env M).bind fun d M1 => match d with
  | .frz xs => Res.ok (α := IterD) (fun i _ => some xs[i]?) M1
  | .loc l => (match M1[l]? with | some (.lst _) => Res.ok (α := IterD) (itLoc l) M1 | _ => .bad)
  | _ => .bad := rfl
@[simp] theorem ev_iterT : vIterT a env M = (a env M).bind fun d M1 => match d with | .tup xs => Res.ok (α := IterD) (fun i _ => some xs[i]?) M1 | _ => .bad := rfl
@[simp] theorem ev_iterS : vIterS a env M = (a env M).bind fun d M1 => match d with | .str s => Res.ok (α := IterD) (fun i _ => some (s[i]?.map fun c => .str [c])) M1 | _ => .bad := rfl
@[simp] theorem ev_range1 : vRange1 a env M = (a env M).bind fun d M1 => match d with | .int j => if small62 j then Res.ok (α := IterD) (itR 0 j.toNat) M1 else .bad | _ => .bad := rfl
@[simp] theorem ev_range2 : vRange2 a b env M = (a env M).bind fun x M1 => (b env M1).bind fun y M2 => match x, y with | .int i, .int j => if small62 i && small62 j then Res.ok (α := IterD) (itR i (j - i).toNat) M2 else .bad | _, _ => .bad := rfl
/-! statements -/
@[simp] theorem es_nil : sNil env M = .nx env M := rfl
@[simp] theorem es_seq : sSeq s r env M = (s env M).bind r := rfl
@[simp] theorem es_brk : sBrk env M = .brk env M := rfl
@[simp] theorem es_cnt : sCnt env M = .cnt env M := rfl
@[simp] theorem es_expr : sExpr a env M = (a env M).st env fun _ M1 => .nx env M1 := rfl
@[simp] theorem es_ret : sRet a env M = (a env M).st env fun d M1 => .ret d M1 := rfl
@[simp] theorem es_retN : sRetN env M = .ret .non M := rfl
@[simp] theorem es_if : sIf t s r env M = (t env M).st env fun c M1 => match c with | true => s env M1 | false => r env M1 := rfl
@[simp] theorem es_asg (g : SMg) : sAsg a g env M = (a env M).st env fun d M1 => g d env M1 := rfl
@[simp] theorem es_name (i : Nat) : gName i d env M = .nx (env.set i (some d)) M := rfl
@[simp] theorem es_par (i j : Nat) : sPar i j a b env M = (a env M).st env fun x M1 => (b env M1).st env fun y M2 => .nx ((env.set i (some x)).set j (some y)) M2 := rfl
@[simp] theorem es_aug (i : Nat) (f : Op2) : sAug i f a env M = match env[i]? with
  | some (some x) => (a env M).st env fun y M1 => (match f x y M1 with | some (z, M2) => .nx (env.set i (some z)) M2 | none => .bad)
  | _ => .bad := rfl
@[simp] theorem es_while : sWhile t s env M = loopW t s NN env M := rfl
@[simp] theorem es_for (it : SMo IterD) (g : SMg) : sFor it g s env M = (it env M).st env fun J M1 => loopF J g s NN 0 env M1 := rfl
@[simp] theorem es_ix (o i : SMo D) : gIx o i d env M = (o env M).st env fun x M1 => (i env M1).st env fun y M2 => match setIx x y d M2 with | some M3 => .nx env M3 | none => .bad := rfl
@[simp] theorem es_gtup (n : Nat) (gs : List D → SMs) : gTup n gs d env M = match d with | .tup xs => if xs.length = n then gs xs env M else .bad | _ => .bad := rfl
@[simp] theorem es_gnil : gNil [] env M = .nx env M := rfl
@[simp] theorem es_gcons (g : SMg) (h : List D → SMs) (ds : List D) : gCons g h (d :: ds) env M = (g d env M).bind (h ds) := rfl
@[simp] theorem es_fld (cs : List Nat) (j : Nat) : sFld cs j a b env M = (b env M).st env fun d M1 => (a env M1).st env fun x M2 => match setFld cs j x d M2 with | some M3 => .nx env M3 | none => .bad := rfl
@[simp] theorem es_fldaug (cs : List Nat) (j : Nat) (f : Op2) : sFldAug cs j f a b env M = (a env M).st env fun x M1 => match getFld cs j x M1 with
  | some d => (b env M1).st env fun y M2 => (match f d y M2 with
    | some (z, M3) => (match setFld [clsOf x M1] j x z M3 with | some M4 => .nx env M4 | none => .bad)
    | none => .bad)
  | none => .bad := rfl
@[simp] theorem es_raise (c n : Nat) (js : List (Nat × Nat)) : sRaise c n js as env M = (as env M).st env fun ds M1 => if ds.length = n then .exc c (errD ds js []) env M1 else .bad := rfl
@[simp] theorem es_try (hs : List Hd) : sTry s hs env M = match s env M with | .exc c fs env' M' => handleD hs c fs env' M' | r => r := rfl
@[simp] theorem rr_ret : (RS.ret d M).res = .ok d M := rfl
@[simp] theorem rr_nx : (RS.nx env M).res = .ok .non M := rfl
@[simp] theorem rr_exc (c : Nat) (fs : List (Nat × D)) : (RS.exc c fs env M).res = .exc c fs M := rfl
@[simp] theorem rr_bad : RS.bad.res = .bad := rfl
end
/-! ### what a call leaves -/
mutual
theorem lt_of_pure {n : Nat} : ∀ {d : D}, pureD d = true → ltD n d = true
  | .non, _ => rfl
  | .bl _, _ => rfl
  | .int _, _ => rfl
  | .str _, _ => rfl
  | .tup xs, h => by simp only [pureD] at h; simp only [ltD]; exact lt_of_pures h
  | .frz xs, h => by simp only [pureD] at h; simp only [ltD]; exact lt_of_pures h
  | .loc _, h => by simp [pureD] at h
  | .fn _, _ => rfl
theorem lt_of_pures {n : Nat} : ∀ {d : List D}, pureDs d = true → ltDs n d = true
  | [], _ => rfl
  | x :: xs, h => by
    simp only [pureDs, Bool.and_eq_true] at h
    simp only [ltDs, Bool.and_eq_true]
    exact ⟨lt_of_pure h.1, lt_of_pures h.2⟩
end
theorem setOk_app (M G : Hh) : SetOk M (M ++ G) := fun l hl => .inl (List.getElem?_append_left hl)
theorem settle_app {M G : Hh} {b : Bool} (h : b = true) : settle M (M ++ G) b = M := by
  unfold settle
  rw [if_pos ⟨h, setOk_app M G⟩, List.take_left']
  rfl
theorem settle_at {M M0 G : Hh} {b : Bool} (h : b = true) (hl : M0.length = M.length) (hs : SetOk M (M0 ++ G)) : settle M (M0 ++ G) b = M0 := by
  unfold settle
  rw [if_pos ⟨h, hs⟩, ← hl, List.take_left']
  rfl
/-- a call that leaves nothing but a plain value -/
theorem run_ok {n : Nat} {m : SMs} {ds : List D} {M : Hh} {d : D} (h : ∃ G, (m (startD n ds) M).res = .ok d (M ++ G)) (hp : pureD d = true) : runF n m ds M = .ok d M := by
  obtain ⟨G, e⟩ := h
  unfold runF
  rw [e]
  show Res.ok d (settle M (M ++ G) _) = _
  rw [settle_app (lt_of_pure hp)]
theorem run_exc {n : Nat} {m : SMs} {ds : List D} {M : Hh} {c : Nat} {fs : List (Nat × D)} (h : ∃ G, (m (startD n ds) M).res = .exc c fs (M ++ G)) (hp : (fs.all fun p => pureD p.2) = true) : runF n m ds M = .exc c fs M := by
  obtain ⟨G, e⟩ := h
  unfold runF
  rw [e]
  show Res.exc c fs (settle M (M ++ G) _) = _
  rw [settle_app]
  unfold ltF
  rw [List.all_eq_true] at hp ⊢
  exact fun p hm => lt_of_pure (hp p hm)
theorem start1 {n : Nat} {a : D} : startD (n + 1) [a] = some a :: List.replicate n none := by simp [startD]
theorem start2 {n : Nat} {a b : D} : startD (n + 2) [a, b] = some a :: some b :: List.replicate n none := by simp [startD]
theorem start3 {n : Nat} {a b c : D} : startD (n + 3) [a, b, c] = some a :: some b :: some c :: List.replicate n none := by simp [startD]
end Gm

set_option Elab.async false
set_option linter.all false
set_option maxRecDepth 100000
set_option autoImplicit false
/-! Ev2: comprehensions and loops by lists -/
namespace Gm
theorem get_last {M : Hh} {o : MO} : (M ++ [o])[M.length]? = some o := by simp
theorem set_last {M : Hh} {o o' : MO} : (M ++ [o]).set M.length o' = M ++ [o'] := by
  rw [List.set_append_right _ _ (Nat.le_refl _)]; simp
theorem comp_go {J : IterD} {sh : TgS} {t : SMo Bool} {e : SMo D} {env : Ev} {items : List D} {p : D → Bool} {f : D → D} {M : Hh} (hJ : ∀ i M', J i M' = some items[i]?) (hl : items.length ≤ 16777216)
    (hb : ∀ d ∈ items, ∃ env2, bindT sh d env = some env2 ∧ ∀ M', t env2 M' = .ok (p d) M' ∧ (p d = true → e env2 M' = .ok (f d) M')) :
    ∀ (m n i : Nat) (acc : List D), items.length - i = m → m < n → acc.length ≤ i → i ≤ items.length → compF J sh t e M.length env n i (M ++ [.lst acc]) = .ok (.loc M.length) (M ++ [.lst (acc ++ ((items.drop i).filter p).map f)]) := by
  intro m
  induction m with
  | zero =>
    intro n i acc hm hn ha hi
    obtain ⟨n, rfl⟩ : ∃ k, n = k + 1 := ⟨n - 1, by omega⟩
    have : items[i]? = none := List.getElem?_eq_none_iff.mpr (by omega)
    have hd : items.drop i = [] := List.drop_eq_nil_of_le (by omega)
    simp only [compF, hJ, this, hd]
    simp
  | succ m ih =>
    intro n i acc hm hn ha hi
    obtain ⟨n, rfl⟩ : ∃ k, n = k + 1 := ⟨n - 1, by omega⟩
    have hlt : i < items.length := by omega
    have hg : items[i]? = some items[i] := List.getElem?_eq_getElem hlt
    have hd : items.drop i = items[i] :: items.drop (i + 1) := List.drop_eq_getElem_cons hlt
    obtain ⟨env2, h1, h2⟩ := hb items[i] (List.getElem_mem hlt)
    obtain ⟨h3, h4⟩ := h2 (M ++ [.lst acc])
    simp only [compF, hJ, hg, h1, h3, hd]
    cases hp : p items[i] with
    | false =>
      simp only []
      rw [ih n (i + 1) acc (by omega) (by omega) (by omega) (by omega), List.filter_cons_of_neg (by rw [hp]; exact Bool.false_ne_true)]
    | true =>
      simp only [h4 hp, get_last]
      rw [if_pos (by omega), set_last, ih n (i + 1) (acc ++ [f items[i]]) (by omega) (by omega) (by simp; omega) (by omega), List.filter_cons_of_pos hp, List.map_cons, List.append_assoc]
      rfl
theorem comp_filter {J : IterD} {sh : TgS} {t : SMo Bool} {e : SMo D} {env : Ev} {items : List D} (p : D → Bool) (f : D → D) {M : Hh} (hJ : ∀ i M', J i M' = some items[i]?) (hl : items.length ≤ 16777216)
    (hb : ∀ d ∈ items, ∃ env2, bindT sh d env = some env2 ∧ ∀ M', t env2 M' = .ok (p d) M' ∧ (p d = true → e env2 M' = .ok (f d) M')) :
    compF J sh t e M.length env NN 0 (M ++ [.lst []]) = .ok (.loc M.length) (M ++ [.lst ((items.filter p).map f)]) := by
  have := comp_go (M := M) hJ hl hb items.length NN 0 [] (by omega) (by unfold NN; omega) (by simp) (by omega)
  simpa using this
theorem comp_map {J : IterD} {sh : TgS} {e : SMo D} {env : Ev} {items : List D} (f : D → D) {M : Hh} (hJ : ∀ i M', J i M' = some items[i]?) (hl : items.length ≤ 16777216)
    (hb : ∀ d ∈ items, ∃ env2, bindT sh d env = some env2 ∧ ∀ M', e env2 M' = .ok (f d) M') :
    compF J sh vYes e M.length env NN 0 (M ++ [.lst []]) = .ok (.loc M.length) (M ++ [.lst (items.map f)]) := by
  have := comp_filter (M := M) (t := vYes) (fun _ => true) f hJ hl fun d hd => by
    obtain ⟨env2, h1, h2⟩ := hb d hd
    exact ⟨env2, h1, fun M' => ⟨rfl, fun _ => h2 M'⟩⟩
  rw [this, List.filter_eq_self.mpr fun _ _ => rfl]
/-- a text's signs, walked -/
theorem iterS_items (s : List Nat) (i : Nat) : (some (s[i]?.map fun c => D.str [c]) : Option (Option D)) = some (s.map fun c => D.str [c])[i]? := by
  rw [List.getElem?_map]
theorem bls_map {α : Type} (p : α → Bool) : ∀ l : List α, blsD (l.map fun c => D.bl (p c)) = some (l.map p)
  | [] => rfl
  | x :: l => by
    show (blsD (l.map fun c => D.bl (p c))).map (p x :: ·) = _
    rw [bls_map p l]; rfl
@[simp] theorem lstL_last {M : Hh} {xs : List D} : lstL (.loc M.length) (M ++ [.lst xs]) = some xs := by simp [lstL]
@[simp] theorem itemsD_last {M : Hh} {xs : List D} : itemsD (.loc M.length) (M ++ [.lst xs]) = some xs := by simp [itemsD]
theorem strs_map : ∀ l : List (List Nat), strsD (l.map D.str) = some l
  | [] => rfl
  | x :: l => by
    show (strsD (l.map D.str)).map (x :: ·) = _
    rw [strs_map l]; rfl
/-! ### a list in the middle of the heap -/
theorem get_mid {M G : Hh} {o : MO} : (M ++ o :: G)[M.length]? = some o := by simp
theorem set_mid {M G : Hh} {o o' : MO} : (M ++ o :: G).set M.length o' = M ++ o' :: G := by
  rw [List.set_append_right _ _ (Nat.le_refl _)]; simp
theorem get_end {M G : Hh} {o x : MO} : (M ++ o :: (G ++ [x]))[(M ++ o :: G).length]? = some x := by
  have : M ++ o :: (G ++ [x]) = (M ++ o :: G) ++ [x] := by simp
  rw [this]; simp
theorem mid_app {M G : Hh} {o x : MO} : (M ++ o :: G) ++ [x] = M ++ o :: (G ++ [x]) := by simp
end Gm

set_option Elab.async false
set_option linter.all false
set_option maxRecDepth 100000
set_option autoImplicit false
/-! Ev3: values: what the operations give, as rules for simp -/
namespace Gm
section
variable {M : Hh} {a b b' : List Nat} {x y z d : D} {xs : List D} {i j : Int}
@[simp] theorem op_eq_str : opEq (.str a) (.str b) M = some (.bl (a == b), M) := by simp [opEq, seeD, pureD, dep, deq]
@[simp] theorem op_eq_int : opEq (.int i) (.int j) M = some (.bl (i == j), M) := by simp [opEq, seeD, pureD, dep, deq]
@[simp] theorem op_ne_str : opNe (.str a) (.str b) M = some (.bl (!(a == b)), M) := by simp [opNe, seeD, pureD, dep, deq]
@[simp] theorem op_ne_int : opNe (.int i) (.int j) M = some (.bl (!(i == j)), M) := by simp [opNe, seeD, pureD, dep, deq]
@[simp] theorem op_ix0 : opIx (.tup (x :: xs)) (.int 0) M = some (x, M) := by simp [opIx, L2.atI, L2.ixN]
@[simp] theorem op_ix1 : opIx (.tup (x :: y :: xs)) (.int 1) M = some (y, M) := by
  have h : (1 : Int) < (xs.length : Int) + 1 + 1 := by omega
  simp [opIx, L2.atI, L2.ixN, h]
@[simp] theorem op_ix2 : opIx (.tup (x :: y :: z :: xs)) (.int 2) M = some (z, M) := by
  have h : (2 : Int) < (xs.length : Int) + 1 + 1 + 1 := by omega
  simp [opIx, L2.atI, L2.ixN, h]
@[simp] theorem op_lt : opLt (.int i) (.int j) M = some (.bl (decide (i < j)), M) := rfl
@[simp] theorem op_le : opLe (.int i) (.int j) M = some (.bl (decide (i ≤ j)), M) := rfl
@[simp] theorem op_gt : opGt (.int i) (.int j) M = some (.bl (decide (j < i)), M) := rfl
@[simp] theorem op_ge : opGe (.int i) (.int j) M = some (.bl (decide (j ≤ i)), M) := rfl
@[simp] theorem op_add_int : opAdd (.int i) (.int j) M = some (.int (i + j), M) := rfl
@[simp] theorem op_sub_int : opSub (.int i) (.int j) M = some (.int (i - j), M) := rfl
theorem op_add_str (h : a.length + b.length ≤ 16777216) : opAdd (.str a) (.str b) M = some (.str (a ++ b), M) := if_pos h
@[simp] theorem op_iadd_int : opIadd (.int i) (.int j) M = some (.int (i + j), M) := rfl
@[simp] theorem op_in_two : opIn (.str a) (.tup [.str b, .str b']) M = some (.bl (b == a || b' == a), M) := by simp [opIn, inD, seeD, pureD, pureDs, deps, dep, memD, deq]
@[simp] theorem op_in_one {c : Nat} : opIn (.str [c]) (.str b) M = some (.bl (decide (c ∈ b)), M) := rfl
@[simp] theorem op_is_non : opIs .non .non M = some (.bl true, M) := rfl
@[simp] theorem op_is_tup : opIs (.tup xs) .non M = some (.bl false, M) := rfl
@[simp] theorem op_is_int : opIs (.int i) .non M = some (.bl false, M) := rfl
@[simp] theorem op_is_str : opIs (.str a) .non M = some (.bl false, M) := rfl
@[simp] theorem op_isn_non : opIsn .non .non M = some (.bl false, M) := rfl
@[simp] theorem op_isn_tup : opIsn (.tup xs) .non M = some (.bl true, M) := rfl
@[simp] theorem op_isn_int : opIsn (.int i) .non M = some (.bl true, M) := rfl
@[simp] theorem op_isn_str : opIsn (.str a) .non M = some (.bl true, M) := rfl
@[simp] theorem len_tup : fLen [.tup xs] M = some (.int xs.length, M) := rfl
theorem len_str (h : a.length ≤ 16777216) : fLen [.str a] M = some (.int a.length, M) := if_pos h
@[simp] theorem ty_tup : tyOf (.tup xs) M = some .tuple := rfl
@[simp] theorem ty_str : tyOf (.str a) M = some .str := rfl
@[simp] theorem ty_int : tyOf (.int i) M = some .int := rfl
@[simp] theorem ty_bl {c : Bool} : tyOf (.bl c) M = some .bool := rfl
@[simp] theorem ty_non : tyOf .non M = some .non := rfl
@[simp] theorem sub_tt : subTy .tuple .tuple = true := rfl
@[simp] theorem sub_st : subTy .str .tuple = false := rfl
@[simp] theorem sub_it : subTy .int .tuple = false := rfl
@[simp] theorem sub_bt : subTy .bool .tuple = false := rfl
@[simp] theorem sub_nt : subTy .non .tuple = false := rfl
@[simp] theorem sub_ts : subTy .tuple .str = false := rfl
@[simp] theorem sub_ss : subTy .str .str = true := rfl
@[simp] theorem sub_is : subTy .int .str = false := rfl
@[simp] theorem sub_bs : subTy .bool .str = false := rfl
@[simp] theorem sub_ns : subTy .non .str = false := rfl
@[simp] theorem sub_ti : subTy .tuple .int = false := rfl
@[simp] theorem sub_si : subTy .str .int = false := rfl
@[simp] theorem sub_ii : subTy .int .int = true := rfl
@[simp] theorem sub_bi : subTy .bool .int = true := rfl
@[simp] theorem sub_ni : subTy .non .int = false := rfl
@[simp] theorem sub_tb : subTy .tuple .bool = false := rfl
@[simp] theorem sub_sb : subTy .str .bool = false := rfl
@[simp] theorem sub_ib : subTy .int .bool = false := rfl
@[simp] theorem sub_bb : subTy .bool .bool = true := rfl
@[simp] theorem sub_nb : subTy .non .bool = false := rfl
@[simp] theorem tru_bl {c : Bool} : truD (.bl c) M = some c := rfl
@[simp] theorem tru_int : truD (.int i) M = some (i != 0) := rfl
@[simp] theorem tru_non : truD .non M = some false := rfl
@[simp] theorem tru_tup : truD (.tup xs) M = some (!xs.isEmpty) := rfl
@[simp] theorem sl_tail : slD (.tup (x :: xs)) (some 1) none M = some (.tup xs, M) := by
  simp [slD, cutD, HT.sIx]
@[simp] theorem ofO_none' : (Res.ofO (none : Option (D × Hh))) = .bad := rfl
end
end Gm

set_option Elab.async false
set_option linter.all false
set_option maxRecDepth 100000
set_option autoImplicit false
/-! Ev4: places counted, calls that write one object -/
namespace Gm
open L2
theorem atI_nat {α : Type} (xs : List α) (i : Nat) : atI xs (i : Int) = xs[i]? := by
  unfold atI ixN
  rw [if_pos (by omega)]
  by_cases h : (i : Int) < (xs.length : Int)
  · rw [if_pos h]; simp
  · rw [if_neg h, List.getElem?_eq_none_iff.mpr (by omega)]; rfl
theorem op_ix_nat {M : Hh} {xs : List D} {i : Nat} : opIx (.tup xs) (.int (i : Nat)) M = (xs[i]?).map fun d => (d, M) := by
  simp [opIx, atI_nat]
theorem op_ix_str {M : Hh} {s : List Nat} {i : Nat} (h : s.length ≤ 16777216) : opIx (.str s) (.int (i : Nat)) M = (s[i]?).map fun c => (.str [c], M) := by
  simp [opIx, atI_nat, h]
theorem op_ix_loc {M : Hh} {xs : List D} {l i : Nat} (h : M[l]? = some (.lst xs)) : opIx (.loc l) (.int (i : Nat)) M = (xs[i]?).map fun d => (d, M) := by
  simp [opIx, atI_nat, h]
theorem setOk_at {M : Hh} {l : Nat} {o : MO} {G : Hh} (ho : ltM M.length o = true) : SetOk M (M.set l o ++ G) := by
  intro i hi
  rw [List.getElem?_append_left (by simpa using hi)]
  by_cases h : l = i
  · subst h
    right
    exact ⟨o, by simp [hi], ho⟩
  · left
    rw [List.getElem?_set_ne h]
/-- a call that writes one object -/
theorem run_set {n : Nat} {m : SMs} {ds : List D} {M : Hh} {l : Nat} {o : MO} {d : D} (h : ∃ G, (m (startD n ds) M).res = .ok d (M.set l o ++ G)) (hp : pureD d = true) (ho : ltM M.length o = true) : runF n m ds M = .ok d (M.set l o) := by
  obtain ⟨G, e⟩ := h
  unfold runF
  rw [e]
  show Res.ok d (settle M (M.set l o ++ G) _) = _
  rw [settle_at (lt_of_pure hp) (by simp) (setOk_at ho)]
theorem run_set_exc {n : Nat} {m : SMs} {ds : List D} {M : Hh} {l : Nat} {o : MO} {c : Nat} {fs : List (Nat × D)} (h : ∃ G, (m (startD n ds) M).res = .exc c fs (M.set l o ++ G)) (hp : (fs.all fun p => pureD p.2) = true) (ho : ltM M.length o = true) : runF n m ds M = .exc c fs (M.set l o) := by
  obtain ⟨G, e⟩ := h
  unfold runF
  rw [e]
  show Res.exc c fs (settle M (M.set l o ++ G) _) = _
  rw [settle_at _ (by simp) (setOk_at ho)]
  unfold ltF
  rw [List.all_eq_true] at hp ⊢
  exact fun p hm => lt_of_pure (hp p hm)
/-- a comprehension over a list of the heap; what it calls leaves the heap as it is -/
theorem compL_go {J : IterD} {sh : TgS} {t : SMo Bool} {e : SMo D} {env : Ev} {items : List D} {p : D → Bool} {f : D → D} {M : Hh} (hJ : ∀ i acc, J i (M ++ [.lst acc]) = some items[i]?) (hl : items.length ≤ 16777216)
    (hb : ∀ d ∈ items, ∃ env2, bindT sh d env = some env2 ∧ ∀ acc, t env2 (M ++ [.lst acc]) = .ok (p d) (M ++ [.lst acc]) ∧ (p d = true → e env2 (M ++ [.lst acc]) = .ok (f d) (M ++ [.lst acc]))) :
    ∀ (m n i : Nat) (acc : List D), items.length - i = m → m < n → acc.length ≤ i → i ≤ items.length → compF J sh t e M.length env n i (M ++ [.lst acc]) = .ok (.loc M.length) (M ++ [.lst (acc ++ ((items.drop i).filter p).map f)]) := by
  intro m
  induction m with
  | zero =>
    intro n i acc hm hn ha hi
    obtain ⟨n, rfl⟩ : ∃ k, n = k + 1 := ⟨n - 1, by omega⟩
    have : items[i]? = none := List.getElem?_eq_none_iff.mpr (by omega)
    have hd : items.drop i = [] := List.drop_eq_nil_of_le (by omega)
    simp only [compF, hJ, this, hd]
    simp
  | succ m ih =>
    intro n i acc hm hn ha hi
    obtain ⟨n, rfl⟩ : ∃ k, n = k + 1 := ⟨n - 1, by omega⟩
    have hlt : i < items.length := by omega
    have hg : items[i]? = some items[i] := List.getElem?_eq_getElem hlt
    have hd : items.drop i = items[i] :: items.drop (i + 1) := List.drop_eq_getElem_cons hlt
    obtain ⟨env2, h1, h2⟩ := hb items[i] (List.getElem_mem hlt)
    obtain ⟨h3, h4⟩ := h2 acc
    simp only [compF, hJ, hg, h1, h3, hd]
    cases hp : p items[i] with
    | false =>
      simp only []
      rw [ih n (i + 1) acc (by omega) (by omega) (by omega) (by omega), List.filter_cons_of_neg (by rw [hp]; exact Bool.false_ne_true)]
    | true =>
      simp only [h4 hp, get_last]
      rw [if_pos (by omega), set_last, ih n (i + 1) (acc ++ [f items[i]]) (by omega) (by omega) (by simp; omega) (by omega), List.filter_cons_of_pos hp, List.map_cons, List.append_assoc]
      rfl
theorem compL {J : IterD} {sh : TgS} {t : SMo Bool} {e : SMo D} {env : Ev} {items : List D} (p : D → Bool) (f : D → D) {M : Hh} (hJ : ∀ i acc, J i (M ++ [.lst acc]) = some items[i]?) (hl : items.length ≤ 16777216)
    (hb : ∀ d ∈ items, ∃ env2, bindT sh d env = some env2 ∧ ∀ acc, t env2 (M ++ [.lst acc]) = .ok (p d) (M ++ [.lst acc]) ∧ (p d = true → e env2 (M ++ [.lst acc]) = .ok (f d) (M ++ [.lst acc]))) :
    compF J sh t e M.length env NN 0 (M ++ [.lst []]) = .ok (.loc M.length) (M ++ [.lst ((items.filter p).map f)]) := by
  have := compL_go (M := M) hJ hl hb items.length NN 0 [] (by omega) (by unfold NN; omega) (by simp) (by omega)
  simpa using this
theorem compLm {J : IterD} {sh : TgS} {e : SMo D} {env : Ev} {items : List D} (f : D → D) {M : Hh} (hJ : ∀ i acc, J i (M ++ [.lst acc]) = some items[i]?) (hl : items.length ≤ 16777216)
    (hb : ∀ d ∈ items, ∃ env2, bindT sh d env = some env2 ∧ ∀ acc, e env2 (M ++ [.lst acc]) = .ok (f d) (M ++ [.lst acc])) :
    compF J sh vYes e M.length env NN 0 (M ++ [.lst []]) = .ok (.loc M.length) (M ++ [.lst (items.map f)]) := by
  have := compL (M := M) (t := vYes) (fun _ => true) f hJ hl fun d hd => by
    obtain ⟨env2, h1, h2⟩ := hb d hd
    exact ⟨env2, h1, fun acc => ⟨rfl, fun _ => h2 acc⟩⟩
  rw [this, List.filter_eq_self.mpr fun _ _ => rfl]
theorem itLoc_app {M : Hh} {l : Nat} {xs : List D} (h : M[l]? = some (.lst xs)) (i : Nat) (acc : List D) : itLoc l i (M ++ [.lst acc]) = some xs[i]? := by
  have hl : l < M.length := by
    rcases Nat.lt_or_ge l M.length with h' | h'
    · exact h'
    · rw [List.getElem?_eq_none_iff.mpr h'] at h; cases h
  unfold itLoc
  rw [List.getElem?_append_left hl, h]
end Gm

set_option Elab.async false
set_option linter.all false
set_option maxRecDepth 100000
set_option autoImplicit false
/-! Ev5: loops by an invariant; a call that makes something new -/
namespace Gm
open L2
/-- a for over numbers, by an invariant -/
theorem for_inv {g : SMg} {b : SMs} {n : Nat} {lo : Int} (P : Nat → Ev → Hh → Prop) (hs : ∀ i env M, i < n → P i env M → ∃ env' M', (g (.int (lo + i)) env M).bind b = .nx env' M' ∧ P (i + 1) env' M') : ∀ (r i f : Nat) (env : Ev) (M : Hh), i + r = n → r < f → P i env M → ∃ env' M', loopF (itR lo n) g b f i env M = .nx env' M' ∧ P n env' M' := by
  intro r
  induction r with
  | zero =>
    intro i f env M hi hf hp
    obtain ⟨f, rfl⟩ : ∃ q, f = q + 1 := ⟨f - 1, by omega⟩
    have : i = n := by omega
    subst this
    exact ⟨env, M, by simp [loopF, itR], hp⟩
  | succ r ih =>
    intro i f env M hi hf hp
    obtain ⟨f, rfl⟩ : ∃ q, f = q + 1 := ⟨f - 1, by omega⟩
    have hlt : i < n := by omega
    obtain ⟨env1, M1, h1, h2⟩ := hs i env M hlt hp
    obtain ⟨env2, M2, h3, h4⟩ := ih (i + 1) f env1 M1 (by omega) (by omega) h2
    refine ⟨env2, M2, ?_, h4⟩
    simp only [loopF, itR, hlt, if_true, h1]
    exact h3
/-- a for over a list of things, by an invariant; a turn may also end the def -/
theorem for_list {g : SMg} {b : SMs} {J : IterD} {items : List D} (P : Nat → Ev → Hh → Prop) (hJ : ∀ i env M, P i env M → J i M = some items[i]?) (hs : ∀ i env M d, items[i]? = some d → P i env M → ∃ env' M', (g d env M).bind b = .nx env' M' ∧ P (i + 1) env' M') : ∀ (r i f : Nat) (env : Ev) (M : Hh), i + r = items.length → r < f → P i env M → ∃ env' M', loopF J g b f i env M = .nx env' M' ∧ P items.length env' M' := by
  intro r
  induction r with
  | zero =>
    intro i f env M hi hf hp
    obtain ⟨f, rfl⟩ : ∃ q, f = q + 1 := ⟨f - 1, by omega⟩
    have hi : i = items.length := by omega
    have hn : items[i]? = none := List.getElem?_eq_none_iff.mpr (by omega)
    have hj := hJ i env M hp
    rw [hn] at hj
    exact ⟨env, M, by simp only [loopF, hj], by rw [← hi]; exact hp⟩
  | succ r ih =>
    intro i f env M hi hf hp
    obtain ⟨f, rfl⟩ : ∃ q, f = q + 1 := ⟨f - 1, by omega⟩
    have hlt : i < items.length := by omega
    have hg : items[i]? = some items[i] := List.getElem?_eq_getElem hlt
    have hj := hJ i env M hp
    rw [hg] at hj
    obtain ⟨env1, M1, h1, h2⟩ := hs i env M _ hg hp
    obtain ⟨env2, M2, h3, h4⟩ := ih (i + 1) f env1 M1 (by omega) (by omega) h2
    refine ⟨env2, M2, ?_, h4⟩
    simp only [loopF, hj, h1]
    exact h3
/-- a call whose value is new -/
theorem run_new {n : Nat} {m : SMs} {ds : List D} {M M' : Hh} {d : D} (h : (m (startD n ds) M).res = .ok d M') (hl : ltD M.length d = false) : runF n m ds M = .ok d M' := by
  unfold runF
  rw [h]
  show Res.ok d (settle M M' _) = _
  rw [hl]
  unfold settle
  rw [if_neg (by simp)]
theorem range2_ok {a b : SMo D} {env : Ev} {M M1 M2 : Hh} {i j : Int} (h : a env M = .ok (.int i) M1) (h' : b env M1 = .ok (.int j) M2) (hs : small62 i = true) (hs' : small62 j = true) : vRange2 a b env M = .ok (itR i (j - i).toNat) M2 := by
  rw [ev_range2, h, Res.bind_ok, h', Res.bind_ok]
  generalize small62 = f at hs hs' ⊢
  simp only [hs, hs', Bool.and_self, if_true]
end Gm

set_option Elab.async false
set_option linter.all false
set_option maxRecDepth 100000
set_option maxHeartbeats 0
set_option autoImplicit false
/-! K28m: printed by gen.py: what each def does -/
namespace Gm.K28
open Gm
def z_0123456789 : List Nat := [48, 49, 50, 51, 52, 53, 54, 55, 56, 57]
def z_word : List Nat := [119, 111, 114, 100]
def z_mark : List Nat := [109, 97, 114, 107]
def z_strange : List Nat := [115, 116, 114, 97, 110, 103, 101]
def z_empty : List Nat := []
def z___ : List Nat := [32, 10]
def z_not : List Nat := [110, 111, 116]
def z_and : List Nat := [97, 110, 100]
def z_or : List Nat := [111, 114]
def z_is : List Nat := [105, 115]
def z_yes : List Nat := [121, 101, 115]
def z_no : List Nat := [110, 111]
def z_test : List Nat := [116, 101, 115, 116]
def z_sbars : List Nat := [32, 124, 32]
def z_samps : List Nat := [32, 38, 32]
def z_bang : List Nat := [33]
def z_lp : List Nat := [40]
def z_rp : List Nat := [41]
def z_text : List Nat := [116, 101, 120, 116]
def z_bar : List Nat := [124]
def z_amp : List Nat := [38]
def z_shape : List Nat := [115, 104, 97, 112, 101]
def z_unless : List Nat := [117, 110, 108, 101, 115, 115]
def z_go : List Nat := [103, 111]
def z_stop : List Nat := [115, 116, 111, 112]
def z_do : List Nat := [100, 111]
def z_code : List Nat := [99, 111, 100, 101]
def z_nl : List Nat := [10]
def z_unless_ : List Nat := [117, 110, 108, 101, 115, 115, 32]
def z__go_ : List Nat := [32, 103, 111, 32]
def z_sp : List Nat := [32]
def z_p : List Nat := [112]
def z_q : List Nat := [113]
def z_abcdef : List Nat := [97, 98, 99, 100, 101, 102]
def z_a : List Nat := [97]
def z_b : List Nat := [98]
def z_go_2_ : List Nat := [103, 111, 32, 50, 10]
def z_go_1_ : List Nat := [103, 111, 32, 49, 10]
def z_0 : List Nat := [48]
def z_1 : List Nat := [49]
def z_9 : List Nat := [57]
def z_00 : List Nat := [48, 48]
def z_if : List Nat := [105, 102]
def z_A : List Nat := [65]
def z_abcdefghijklmnopqrstuvwx : List Nat := [97, 98, 99, 100, 101, 102, 103, 104, 105, 106, 107, 108, 109, 110, 111, 112, 113, 114, 115, 116, 117, 118, 119, 120, 121, 122]
def z______________01 : List Nat := [33, 38, 124, 40, 41, 123, 125, 59, 43, 46, 42, 91, 93, 48, 49]
def z_skip : List Nat := [115, 107, 105, 112]
def z_assume : List Nat := [97, 115, 115, 117, 109, 101]
def z_else : List Nat := [101, 108, 115, 101]
def z_while : List Nat := [119, 104, 105, 108, 101]
def z_choose : List Nat := [99, 104, 111, 111, 115, 101]
def z_loop : List Nat := [108, 111, 111, 112]
abbrev k_HEIGHTS : List (List Nat × D) := [(z_or, (.int 0)), (z_and, (.int 1)), (z_not, (.int 2))]
abbrev k_LETTERS : D := (.str z_abcdefghijklmnopqrstuvwx)
abbrev k_MARKS : D := (.str z______________01)
abbrev k_MOST_DEEP : D := (.int 10)
abbrev k_MOST_LINES : D := (.int 80)
abbrev k_WORDS : D := (.tup [(.str z_skip), (.str z_stop), (.str z_assume), (.str z_if), (.str z_else), (.str z_while), (.str z_choose), (.str z_or), (.str z_loop), (.str z_yes), (.str z_no)])
/-- the number of arguments -/
def ar : Nat → Option Nat
  | 0 => some 1
  | 1 => some 1
  | 2 => some 1
  | 3 => some 1
  | 4 => some 1
  | 5 => some 1
  | 6 => some 1
  | 7 => some 1
  | 8 => some 1
  | 9 => some 2
  | 10 => some 1
  | 11 => some 2
  | 12 => some 2
  | 13 => some 2
  | 14 => some 1
  | 15 => some 2
  | 16 => some 1
  | 17 => some 1
  | 18 => some 1
  | 19 => some 1
  | 20 => some 3
  | 21 => some 2
  | 22 => some 2
  | 23 => some 2
  | 24 => some 3
  | 25 => some 2
  | 26 => some 3
  | 27 => some 1
  | 28 => some 1
  | 29 => some 1
  | 30 => some 1
  | 31 => some 2
  | 32 => some 1
  | 33 => some 2
  | 34 => some 1
  | 35 => some 2
  | 36 => some 2
  | 37 => some 1
  | _ => none
/-- is_integer: 0 thing -/
noncomputable def m_is_integer (c : Nat → Fn) : SMs :=
  sRet (vAndT (vIsi .int (vVar 0)) (vBl (vNot (vTru (vIsi .bool (vVar 0))))))
/-- is_name: 0 thing, 1 sign -/
noncomputable def m_is_name (c : Nat → Fn) : SMs :=
  sSeq (sIf (vOr (vNot (vTru (vIsi .str (vVar 0)))) (vOr (vNot (vTest (vChain opLe opLe (vC (.int 1)) (vB fLen (vCons (vVar 0) (vNil))) (vC (.int 6))))) (vTest (vOp opIn (vVar 0) (vC k_WORDS))))) (sRet (vC (.bl false))) (sNil))
    (sRet (vB fAll (vCons (vComp (vIterS (vVar 0)) (.one 1) (vYes) (vOp opIn (vVar 1) (vC k_LETTERS)) [1]) (vNil))))
/-- is_figures: 0 word, 1 sign -/
noncomputable def m_is_figures (c : Nat → Fn) : SMs :=
  sRet (vAndT (vChain opLe opLe (vC (.int 1)) (vB fLen (vCons (vVar 0) (vNil))) (vC (.int 3))) (vAndT (vB fAll (vCons (vComp (vIterS (vVar 0)) (.one 1) (vYes) (vOp opIn (vVar 1) (vC (.str z_0123456789))) [1]) (vNil))) (vOp opEq (vB fStr (vCons (vB fInt (vCons (vVar 0) (vNil))) (vNil))) (vVar 0))))
/-- signs_of: 0 text, 1 found, 2 at, 3 end -/
noncomputable def m_signs_of (c : Nat → Fn) : SMs :=
  sSeq (sPar 1 2 (vLst (vNil)) (vC (.int 0)))
    (sSeq (sWhile (vTest (vOp opLt (vVar 2) (vB fLen (vCons (vVar 0) (vNil))))) (sSeq (sAsg (vOp opAdd (vVar 2) (vC (.int 1))) (gName 3))
    (sSeq (sIf (vTest (vOp opIn (vOp opIx (vVar 0) (vVar 2)) (vC (.str z___)))) (sSeq (sAsg (vVar 3) (gName 2))
    (sCnt)) (sNil))
    (sSeq (sIf (vTest (vOp opIn (vOp opIx (vVar 0) (vVar 2)) (vC k_LETTERS))) (sSeq (sWhile (vAnd (vTest (vOp opLt (vVar 3) (vB fLen (vCons (vVar 0) (vNil))))) (vTest (vOp opIn (vOp opIx (vVar 0) (vVar 3)) (vC k_LETTERS)))) (sAug 3 opIadd (vC (.int 1))))
    (sExpr (vM "list" mAppend (vVar 1) (vCons (vTup (vCons (vC (.str z_word)) (vCons (vSl (vVar 0) (vPart (vVar 2)) (vPart (vVar 3))) (vCons (vVar 2) (vNil))))) (vNil))))) (sIf (vTest (vOp opIn (vOp opIx (vVar 0) (vVar 2)) (vC k_MARKS))) (sExpr (vM "list" mAppend (vVar 1) (vCons (vTup (vCons (vC (.str z_mark)) (vCons (vOp opIx (vVar 0) (vVar 2)) (vCons (vVar 2) (vNil))))) (vNil)))) (sRet (vB fTuple (vCons (vOp opAdd (vVar 1) (vLst (vCons (vTup (vCons (vC (.str z_strange)) (vCons (vC (.str z_empty)) (vCons (vVar 2) (vNil))))) (vNil)))) (vNil))))))
    (sAsg (vVar 3) (gName 2))))))
    (sRet (vB fTuple (vCons (vVar 1) (vNil)))))
/-- is_test: 0 thing, 1 todo, 2 here, 3 deep, 4 inner, 5 one -/
noncomputable def m_is_test (c : Nat → Fn) : SMs :=
  sSeq (sAsg (vLst (vCons (vTup (vCons (vVar 0) (vCons (vC (.int 1)) (vNil)))) (vNil))) (gName 1))
    (sSeq (sWhile (vTru (vVar 1)) (sSeq (sAsg (vM "list" mPop (vVar 1) vNil) (gTup 2 (gCons (gName 2) (gCons (gName 3) (gNil)))))
    (sSeq (sAsg (vCallN 1 (c 5) (vCons (vVar 2) (vNil))) (gName 4))
    (sSeq (sIf (vOr (vTest (vOp opIs (vVar 4) (vC .non))) (vTest (vOp opGt (vVar 3) (vC k_MOST_DEEP)))) (sRet (vC (.bl false))) (sNil))
    (sAug 1 opIadd (vComp (vIterT (vVar 4)) (.one 5) (vYes) (vTup (vCons (vVar 5) (vCons (vOp opAdd (vVar 3) (vC (.int 1))) (vNil)))) [5]))))))
    (sRet (vC (.bl true))))
/-- inner_of: 0 thing, 1 wanted -/
noncomputable def m_inner_of (c : Nat → Fn) : SMs :=
  sSeq (sIf (vOr (vNot (vTru (vIsi .tuple (vVar 0)))) (vNot (vTru (vVar 0)))) (sRet (vC .non)) (sNil))
    (sSeq (sIf (vTest (vOp opIn (vVar 0) (vTup (vCons (vTup (vCons (vC (.str z_yes)) (vNil))) (vCons (vTup (vCons (vC (.str z_no)) (vNil))) (vNil)))))) (sRet (vTup (vNil))) (sNil))
    (sSeq (sIf (vTest (vOp opEq (vOp opIx (vVar 0) (vC (.int 0))) (vC (.str z_is)))) (sRet (vIf (vAnd (vTest (vOp opEq (vB fLen (vCons (vVar 0) (vNil))) (vC (.int 2)))) (vTru (vCallN 1 (c 1) (vCons (vOp opIx (vVar 0) (vC (.int 1))) (vNil))))) (vTup (vNil)) (vC .non))) (sNil))
    (sSeq (sAsg (vIf (vTest (vOp opEq (vOp opIx (vVar 0) (vC (.int 0))) (vC (.str z_not)))) (vC (.int 2)) (vIf (vTest (vOp opIn (vOp opIx (vVar 0) (vC (.int 0))) (vTup (vCons (vC (.str z_and)) (vCons (vC (.str z_or)) (vNil)))))) (vC (.int 3)) (vC (.int 0)))) (gName 1))
    (sRet (vIf (vTest (vOp opEq (vB fLen (vCons (vVar 0) (vNil))) (vVar 1))) (vSl (vVar 0) (vPart (vC (.int 1))) (vNo)) (vC .non))))))
/-- check_test: 0 test -/
noncomputable def m_check_test (c : Nat → Fn) : SMs :=
  sIf (vNot (vTru (vCallN 1 (c 4) (vCons (vVar 0) (vNil))))) (sRaise 39 1 [(0, 0)] (vCons (vC (.str z_test)) (vNil))) (sNil)
/-- format_test: 0 test -/
noncomputable def m_format_test (c : Nat → Fn) : SMs :=
  sSeq (sExpr (vCallN 1 (c 6) (vCons (vVar 0) (vNil))))
    (sRet (vOp opIx (vCallN 1 (c 8) (vCons (vVar 0) (vNil))) (vC (.int 0))))
/-- written: 0 test, 1 kind, 2 high, 3 mark -/
noncomputable def m_written (c : Nat → Fn) : SMs :=
  sSeq (sAsg (vOp opIx (vVar 0) (vC (.int 0))) (gName 1))
    (sSeq (sIf (vTest (vOp opIn (vVar 1) (vTup (vCons (vC (.str z_yes)) (vCons (vC (.str z_no)) (vNil)))))) (sRet (vTup (vCons (vVar 1) (vCons (vC (.int 3)) (vNil))))) (sNil))
    (sSeq (sIf (vTest (vOp opEq (vVar 1) (vC (.str z_is)))) (sRet (vTup (vCons (vOp opIx (vVar 0) (vC (.int 1))) (vCons (vC (.int 3)) (vNil))))) (sNil))
    (sSeq (sIf (vTest (vOp opEq (vVar 1) (vC (.str z_not)))) (sRet (vTup (vCons (vOp opAdd (vC (.str z_bang)) (vCallN 2 (c 9) (vCons (vOp opIx (vVar 0) (vC (.int 1))) (vCons (vC (.int 2)) (vNil))))) (vCons (vC (.int 2)) (vNil))))) (sNil))
    (sSeq (sAsg (vKd k_HEIGHTS (vVar 1)) (gName 2))
    (sSeq (sAsg (vIf (vTest (vOp opEq (vVar 1) (vC (.str z_or)))) (vC (.str z_sbars)) (vC (.str z_samps))) (gName 3))
    (sRet (vTup (vCons (vOp opAdd (vOp opAdd (vCallN 2 (c 9) (vCons (vOp opIx (vVar 0) (vC (.int 1))) (vCons (vVar 2) (vNil)))) (vVar 3)) (vCallN 2 (c 9) (vCons (vOp opIx (vVar 0) (vC (.int 2))) (vCons (vOp opAdd (vVar 2) (vC (.int 1))) (vNil))))) (vCons (vVar 2) (vNil))))))))))
/-- bracketed: 0 test, 1 least, 2 text, 3 high -/
noncomputable def m_bracketed (c : Nat → Fn) : SMs :=
  sSeq (sAsg (vCallN 1 (c 8) (vCons (vVar 0) (vNil))) (gTup 2 (gCons (gName 2) (gCons (gName 3) (gNil)))))
    (sRet (vIf (vTest (vOp opGe (vVar 3) (vVar 1))) (vVar 2) (vOp opAdd (vOp opAdd (vC (.str z_lp)) (vVar 2)) (vC (.str z_rp)))))
/-- read_test: 0 text, 1 signs, 2 test -/
noncomputable def m_read_test (c : Nat → Fn) : SMs :=
  sSeq (sIf (vNot (vTru (vIsi .str (vVar 0)))) (sRaise 39 1 [(0, 0)] (vCons (vC (.str z_text)) (vNil))) (sNil))
    (sSeq (sAsg (vMake 41 2 (c 31) (vCons (vVar 0) (vNil))) (gName 1))
    (sSeq (sAsg (vCallN 2 (c 11) (vCons (vVar 1) (vCons (vC (.int 1)) (vNil)))) (gName 2))
    (sSeq (sExpr (vMeth 41 2 1 (c 37) (vVar 1) vNil))
    (sSeq (sIf (vNot (vTru (vCallN 1 (c 4) (vCons (vVar 2) (vNil))))) (sRaise 40 1 [(1, 0)] (vCons (vB fLen (vCons (vVar 0) (vNil))) (vNil))) (sNil))
    (sRet (vVar 2))))))
/-- read_or: 0 signs, 1 deep, 2 test -/
noncomputable def m_read_or (c : Nat → Fn) : SMs :=
  sSeq (sAsg (vCallN 2 (c 12) (vCons (vVar 0) (vCons (vVar 1) (vNil)))) (gName 2))
    (sSeq (sWhile (vTru (vMeth 41 3 2 (c 36) (vVar 0) (vCons (vC (.str z_bar)) (vNil)))) (sAsg (vTup (vCons (vC (.str z_or)) (vCons (vVar 2) (vCons (vCallN 2 (c 12) (vCons (vVar 0) (vCons (vVar 1) (vNil)))) (vNil))))) (gName 2)))
    (sRet (vVar 2)))
/-- read_and: 0 signs, 1 deep, 2 test -/
noncomputable def m_read_and (c : Nat → Fn) : SMs :=
  sSeq (sAsg (vCallN 2 (c 13) (vCons (vVar 0) (vCons (vVar 1) (vNil)))) (gName 2))
    (sSeq (sWhile (vTru (vMeth 41 3 2 (c 36) (vVar 0) (vCons (vC (.str z_amp)) (vNil)))) (sAsg (vTup (vCons (vC (.str z_and)) (vCons (vVar 2) (vCons (vCallN 2 (c 13) (vCons (vVar 0) (vCons (vVar 1) (vNil)))) (vNil))))) (gName 2)))
    (sRet (vVar 2)))
/-- read_least: 0 signs, 1 deep, 2 test, 3 word -/
noncomputable def m_read_least (c : Nat → Fn) : SMs :=
  sSeq (sIf (vAnd (vTest (vOp opGt (vVar 1) (vC k_MOST_DEEP))) (vOr (vTru (vMeth 41 6 2 (c 33) (vVar 0) (vCons (vC (.str z_bang)) (vNil)))) (vTru (vMeth 41 6 2 (c 33) (vVar 0) (vCons (vC (.str z_lp)) (vNil)))))) (sRaise 40 1 [(1, 0)] (vCons (vMeth 41 1 1 (c 32) (vVar 0) vNil) (vNil))) (sNil))
    (sSeq (sIf (vTru (vMeth 41 3 2 (c 36) (vVar 0) (vCons (vC (.str z_bang)) (vNil)))) (sRet (vTup (vCons (vC (.str z_not)) (vCons (vCallN 2 (c 13) (vCons (vVar 0) (vCons (vOp opAdd (vVar 1) (vC (.int 1))) (vNil)))) (vNil))))) (sNil))
    (sSeq (sIf (vTru (vMeth 41 3 2 (c 36) (vVar 0) (vCons (vC (.str z_lp)) (vNil)))) (sSeq (sAsg (vCallN 2 (c 11) (vCons (vVar 0) (vCons (vOp opAdd (vVar 1) (vC (.int 1))) (vNil)))) (gName 2))
    (sSeq (sExpr (vMeth 41 4 2 (c 35) (vVar 0) (vCons (vC (.str z_rp)) (vNil))))
    (sRet (vVar 2)))) (sNil))
    (sSeq (sAsg (vMeth 41 5 1 (c 34) (vVar 0) vNil) (gName 3))
    (sSeq (sIf (vTest (vOp opIn (vVar 3) (vTup (vCons (vC (.str z_yes)) (vCons (vC (.str z_no)) (vNil)))))) (sSeq (sExpr (vMeth 41 4 2 (c 35) (vVar 0) (vCons (vVar 3) (vNil))))
    (sRet (vTup (vCons (vVar 3) (vNil))))) (sNil))
    (sSeq (sIf (vNot (vTru (vCallN 1 (c 1) (vCons (vVar 3) (vNil))))) (sRaise 40 1 [(1, 0)] (vCons (vMeth 41 1 1 (c 32) (vVar 0) vNil) (vNil))) (sNil))
    (sSeq (sExpr (vMeth 41 4 2 (c 35) (vVar 0) (vCons (vVar 3) (vNil))))
    (sRet (vTup (vCons (vC (.str z_is)) (vCons (vVar 3) (vNil)))))))))))
/-- code_fault: 0 thing, 1 at, 2 line -/
noncomputable def m_code_fault (c : Nat → Fn) : SMs :=
  sSeq (sIf (vOr (vNot (vTru (vIsi .tuple (vVar 0)))) (vTest (vOp opGt (vB fLen (vCons (vVar 0) (vNil))) (vC k_MOST_LINES)))) (sRet (vC (.str z_shape))) (sNil))
    (sSeq (sFor (vEnumT (vVar 0)) (gTup 2 (gCons (gName 1) (gCons (gName 2) (gNil)))) (sIf (vNot (vTru (vCallN 2 (c 15) (vCons (vVar 2) (vCons (vB fLen (vCons (vVar 0) (vNil))) (vNil)))))) (sRet (vVar 1)) (sNil)))
    (sRet (vC .non)))
/-- is_line: 0 thing, 1 many -/
noncomputable def m_is_line (c : Nat → Fn) : SMs :=
  sSeq (sIf (vOr (vNot (vTru (vIsi .tuple (vVar 0)))) (vOr (vNot (vTru (vVar 0))) (vNot (vTru (vIsi .str (vOp opIx (vVar 0) (vC (.int 0)))))))) (sRet (vC (.bl false))) (sNil))
    (sSeq (sIf (vTest (vOp opEq (vOp opIx (vVar 0) (vC (.int 0))) (vC (.str z_do)))) (sRet (vAndT (vOp opEq (vB fLen (vCons (vVar 0) (vNil))) (vC (.int 2))) (vCallN 1 (c 1) (vCons (vOp opIx (vVar 0) (vC (.int 1))) (vNil))))) (sNil))
    (sSeq (sIf (vTest (vOp opEq (vOp opIx (vVar 0) (vC (.int 0))) (vC (.str z_stop)))) (sRet (vOp opEq (vB fLen (vCons (vVar 0) (vNil))) (vC (.int 1)))) (sNil))
    (sSeq (sIf (vOr (vTest (vOp opNin (vOp opIx (vVar 0) (vC (.int 0))) (vTup (vCons (vC (.str z_go)) (vCons (vC (.str z_unless)) (vNil)))))) (vTest (vOp opNe (vB fLen (vCons (vVar 0) (vNil))) (vIf (vTest (vOp opEq (vOp opIx (vVar 0) (vC (.int 0))) (vC (.str z_go)))) (vC (.int 2)) (vC (.int 3)))))) (sRet (vC (.bl false))) (sNil))
    (sSeq (sIf (vAnd (vTest (vOp opEq (vOp opIx (vVar 0) (vC (.int 0))) (vC (.str z_unless)))) (vNot (vTru (vCallN 1 (c 4) (vCons (vOp opIx (vVar 0) (vC (.int 1))) (vNil)))))) (sRet (vC (.bl false))) (sNil))
    (sRet (vAndT (vCallN 1 (c 0) (vCons (vOp opIx (vVar 0) (vNeg (vC (.int 1)))) (vNil))) (vChain opLe opLe (vC (.int 0)) (vOp opIx (vVar 0) (vNeg (vC (.int 1)))) (vVar 1))))))))
/-- check_code: 0 code -/
noncomputable def m_check_code (c : Nat → Fn) : SMs :=
  sIf (vTest (vOp opIsn (vCallN 1 (c 14) (vCons (vVar 0) (vNil))) (vC .non))) (sRaise 39 1 [(0, 0)] (vCons (vC (.str z_code)) (vNil))) (sNil)
/-- format_code: 0 code, 1 lines, 2 line, 3 one -/
noncomputable def m_format_code (c : Nat → Fn) : SMs :=
  sSeq (sExpr (vCallN 1 (c 16) (vCons (vVar 0) (vNil))))
    (sSeq (sAsg (vLst (vNil)) (gName 1))
    (sSeq (sFor (vIterT (vVar 0)) (gName 2) (sIf (vTest (vOp opEq (vOp opIx (vVar 2) (vC (.int 0))) (vC (.str z_unless)))) (sExpr (vM "list" mAppend (vVar 1) (vCons (vOp opAdd (vOp opAdd (vOp opAdd (vC (.str z_unless_)) (vCallN 1 (c 7) (vCons (vOp opIx (vVar 2) (vC (.int 1))) (vNil)))) (vC (.str z__go_))) (vB fStr (vCons (vOp opIx (vVar 2) (vC (.int 2))) (vNil)))) (vNil)))) (sExpr (vM "list" mAppend (vVar 1) (vCons (vM "str" mJoin (vC (.str z_sp)) (vCons (vComp (vIterT (vVar 2)) (.one 3) (vYes) (vB fStr (vCons (vVar 3) (vNil))) [3]) (vNil))) (vNil))))))
    (sRet (vM "str" mJoin (vC (.str z_empty)) (vCons (vComp (vIter (vVar 1)) (.one 2) (vYes) (vOp opAdd (vVar 2) (vC (.str z_nl))) [2]) (vNil))))))
/-- read_code: 0 text, 1 lines, 2 found, 3 at, 4 line, 5 told -/
noncomputable def m_read_code (c : Nat → Fn) : SMs :=
  sSeq (sIf (vNot (vTru (vIsi .str (vVar 0)))) (sRaise 39 1 [(0, 0)] (vCons (vC (.str z_text)) (vNil))) (sNil))
    (sSeq (sPar 1 2 (vM "str" mSplit (vVar 0) (vCons (vC (.str z_nl)) (vNil))) (vLst (vNil)))
    (sSeq (sFor (vEnum (vSl (vVar 1) (vNo) (vPart (vNeg (vC (.int 1)))))) (gTup 2 (gCons (gName 3) (gCons (gName 4) (gNil)))) (sSeq (sAsg (vCallN 1 (c 19) (vCons (vVar 4) (vNil))) (gName 5))
    (sSeq (sIf (vTest (vOp opIs (vVar 5) (vC .non))) (sRaise 40 1 [(1, 0)] (vCons (vVar 3) (vNil))) (sNil))
    (sExpr (vM "list" mAppend (vVar 2) (vCons (vVar 5) (vNil)))))))
    (sSeq (sIf (vTest (vOp opNe (vOp opIx (vVar 1) (vNeg (vC (.int 1)))) (vC (.str z_empty)))) (sRaise 40 1 [(1, 0)] (vCons (vOp opSub (vB fLen (vCons (vVar 1) (vNil))) (vC (.int 1))) (vNil))) (sNil))
    (sSeq (sExpr (vCallN 1 (c 16) (vCons (vB fTuple (vCons (vVar 2) (vNil))) (vNil))))
    (sRet (vB fTuple (vCons (vVar 2) (vNil))))))))
/-- line_of: 0 text, 1 words, 2 told, 3 test -/
noncomputable def m_line_of (c : Nat → Fn) : SMs :=
  sSeq (sAsg (vM "str" mSplit (vVar 0) (vCons (vC (.str z_sp)) (vNil))) (gName 1))
    (sSeq (sIf (vTest (vOp opEq (vVar 0) (vC (.str z_stop)))) (sRet (vTup (vCons (vC (.str z_stop)) (vNil)))) (sNil))
    (sSeq (sIf (vAnd (vTest (vOp opEq (vOp opIx (vVar 1) (vC (.int 0))) (vC (.str z_do)))) (vAnd (vTest (vOp opEq (vB fLen (vCons (vVar 1) (vNil))) (vC (.int 2)))) (vTru (vCallN 1 (c 1) (vCons (vOp opIx (vVar 1) (vC (.int 1))) (vNil)))))) (sRet (vTup (vCons (vC (.str z_do)) (vCons (vOp opIx (vVar 1) (vC (.int 1))) (vNil))))) (sNil))
    (sSeq (sIf (vAnd (vTest (vOp opEq (vOp opIx (vVar 1) (vC (.int 0))) (vC (.str z_go)))) (vAnd (vTest (vOp opEq (vB fLen (vCons (vVar 1) (vNil))) (vC (.int 2)))) (vTru (vCallN 1 (c 2) (vCons (vOp opIx (vVar 1) (vC (.int 1))) (vNil)))))) (sRet (vTup (vCons (vC (.str z_go)) (vCons (vB fInt (vCons (vOp opIx (vVar 1) (vC (.int 1))) (vNil))) (vNil))))) (sNil))
    (sSeq (sIf (vAnd (vTest (vOp opEq (vOp opIx (vVar 1) (vC (.int 0))) (vC (.str z_unless)))) (vAnd (vTest (vOp opGt (vB fLen (vCons (vVar 1) (vNil))) (vC (.int 3)))) (vAnd (vTest (vOp opEq (vOp opIx (vVar 1) (vNeg (vC (.int 2)))) (vC (.str z_go)))) (vTru (vCallN 1 (c 2) (vCons (vOp opIx (vVar 1) (vNeg (vC (.int 1)))) (vNil))))))) (sSeq (sAsg (vM "str" mJoin (vC (.str z_sp)) (vCons (vSl (vVar 1) (vPart (vC (.int 1))) (vPart (vNeg (vC (.int 2))))) (vNil))) (gName 2))
    (sSeq (sTry (sAsg (vCallN 1 (c 10) (vCons (vVar 2) (vNil))) (gName 3)) [⟨mtOf [(39, false), (40, true)], none, fun c1 fs1 => vC .non⟩])
    (sRet (vIf (vTest (vOp opEq (vCallN 1 (c 7) (vCons (vVar 3) (vNil))) (vVar 2))) (vTup (vCons (vC (.str z_unless)) (vCons (vVar 3) (vCons (vB fInt (vCons (vOp opIx (vVar 1) (vNeg (vC (.int 1)))) (vNil))) (vNil))))) (vC .non))))) (sNil))
    (sRet (vC .non))))))
/-- _law_digits: 0 script, 1 first, 2 last, 3 digits, 4 k, 5 cell, 6 turn, 7 seed -/
noncomputable def m__law_digits (c : Nat → Fn) : SMs :=
  sSeq (sAsg (vLst (vNil)) (gName 3))
    (sSeq (sFor (vRange2 (vVar 1) (vVar 2)) (gName 4) (sSeq (sAsg (vIf (vTest (vOp opLt (vVar 4) (vB fLen (vCons (vVar 0) (vNil))))) (vOp opIx (vVar 0) (vVar 4)) (vC (.int 0))) (gName 5))
    (sSeq (sIf (vTest (vOp opLt (vVar 5) (vC (.int 0)))) (sAsg (vOp opSub (vC (.int 1)) (vOp opMul (vC (.int 2)) (vVar 5))) (gName 5)) (sNil))
    (sIf (vTest (vOp opGe (vVar 5) (vC (.int 1000000000000000000)))) (sFor (vRange1 (vC (.int 60))) (gName 6) (sIf (vTest (vOp opGt (vVar 5) (vC (.int 0)))) (sSeq (sExpr (vM "list" mAppend (vVar 3) (vCons (vOp opMod (vB fInt (vCons (vVar 5) (vNil))) (vC (.int 1009))) (vNil))))
    (sAsg (vOp opFdiv (vVar 5) (vC (.int 1009))) (gName 5))) (sNil))) (sSeq (sAsg (vOp opMod (vB fInt (vCons (vOp opAdd (vOp opAdd (vOp opMul (vVar 5) (vC (.int 40699))) (vOp opMul (vVar 4) (vC (.int 52769)))) (vC (.int 31))) (vNil))) (vC (.int 2147483399))) (gName 7))
    (sFor (vRange1 (vC (.int 12))) (gName 6) (sSeq (sAsg (vOp opMod (vB fInt (vCons (vOp opAdd (vOp opAdd (vOp opMul (vVar 7) (vC (.int 40014))) (vOp opMul (vC (.int 11)) (vVar 6))) (vC (.int 7))) (vNil))) (vC (.int 2147483563))) (gName 7))
    (sExpr (vM "list" mAppend (vVar 3) (vCons (vOp opMod (vB fInt (vCons (vOp opFdiv (vVar 7) (vC (.int 1013))) (vNil))) (vC (.int 1009))) (vNil)))))))))))
    (sRet (vVar 3)))
/-- _law_draw: 0 box, 1 many, 2 at -/
noncomputable def m__law_draw (c : Nat → Fn) : SMs :=
  sSeq (sAsg (vOp opIx (vVar 0) (vC (.int 1))) (gName 2))
    (sSeq (sAsg (vOp opAdd (vVar 2) (vC (.int 1))) (gIx (vVar 0) (vC (.int 1))))
    (sSeq (sIf (vTest (vOp opLt (vVar 2) (vB fLen (vCons (vOp opIx (vVar 0) (vC (.int 0))) (vNil))))) (sRet (vOp opMod (vB fInt (vCons (vOp opIx (vOp opIx (vVar 0) (vC (.int 0))) (vVar 2)) (vNil))) (vVar 1))) (sNil))
    (sRet (vOp opMod (vB fInt (vCons (vOp opAdd (vOp opAdd (vOp opAdd (vOp opMul (vOp opMul (vVar 2) (vVar 2)) (vC (.int 3))) (vOp opMul (vVar 2) (vC (.int 4)))) (vOp opFdiv (vVar 2) (vC (.int 3)))) (vC (.int 1))) (vNil))) (vVar 1)))))
/-- _law_pick: 0 box, 1 things -/
noncomputable def m__law_pick (c : Nat → Fn) : SMs :=
  sRet (vOp opIx (vVar 1) (vCallN 2 (c 21) (vCons (vVar 0) (vCons (vB fLen (vCons (vVar 1) (vNil))) (vNil)))))
/-- _law_same: 0 a, 1 b -/
noncomputable def m__law_same (c : Nat → Fn) : SMs :=
  sRet (vOp opEq (vB fRepr (vCons (vVar 0) (vNil))) (vB fRepr (vCons (vVar 1) (vNil))))
/-- _law_test: 0 box, 1 names, 2 down, 3 kind -/
noncomputable def m__law_test (c : Nat → Fn) : SMs :=
  sSeq (sAsg (vIf (vTest (vOp opGt (vVar 2) (vC (.int 0)))) (vCallN 2 (c 21) (vCons (vVar 0) (vCons (vC (.int 8)) (vNil)))) (vCallN 2 (c 21) (vCons (vVar 0) (vCons (vC (.int 3)) (vNil))))) (gName 3))
    (sSeq (sIf (vTest (vOp opLt (vVar 3) (vC (.int 3)))) (sRet (vIf (vTest (vOp opNe (vVar 1) (vTup (vNil)))) (vTup (vCons (vC (.str z_is)) (vCons (vCallN 2 (c 22) (vCons (vVar 0) (vCons (vB fList (vCons (vVar 1) (vNil))) (vNil)))) (vNil)))) (vCallN 2 (c 22) (vCons (vVar 0) (vCons (vLst (vCons (vTup (vCons (vC (.str z_yes)) (vNil))) (vCons (vTup (vCons (vC (.str z_no)) (vNil))) (vNil)))) (vNil)))))) (sNil))
    (sSeq (sIf (vTest (vOp opEq (vVar 3) (vC (.int 3)))) (sRet (vCallN 2 (c 22) (vCons (vVar 0) (vCons (vLst (vCons (vTup (vCons (vC (.str z_yes)) (vNil))) (vCons (vTup (vCons (vC (.str z_no)) (vNil))) (vNil)))) (vNil))))) (sNil))
    (sSeq (sIf (vTest (vOp opLt (vVar 3) (vC (.int 6)))) (sRet (vTup (vCons (vC (.str z_not)) (vCons (vCallN 3 (c 24) (vCons (vVar 0) (vCons (vVar 1) (vCons (vOp opSub (vVar 2) (vC (.int 1))) (vNil))))) (vNil))))) (sNil))
    (sRet (vTup (vCons (vCallN 2 (c 22) (vCons (vVar 0) (vCons (vLst (vCons (vC (.str z_and)) (vCons (vC (.str z_or)) (vNil)))) (vNil)))) (vCons (vCallN 3 (c 24) (vCons (vVar 0) (vCons (vVar 1) (vCons (vOp opSub (vVar 2) (vC (.int 1))) (vNil))))) (vCons (vCallN 3 (c 24) (vCons (vVar 0) (vCons (vVar 1) (vCons (vOp opSub (vVar 2) (vC (.int 1))) (vNil))))) (vNil)))))))))
/-- _law_like: 0 told, 1 due, 2 k -/
noncomputable def m__law_like (c : Nat → Fn) : SMs :=
  sSeq (sIf (vTru (vIsi .tuple (vVar 1))) (sSeq (sIf (vOr (vNot (vTru (vIsi .tuple (vVar 0)))) (vTest (vOp opNe (vB fLen (vCons (vVar 0) (vNil))) (vB fLen (vCons (vVar 1) (vNil)))))) (sRet (vC (.bl false))) (sNil))
    (sRet (vOp opEq (vComp (vRange1 (vB fLen (vCons (vVar 1) (vNil)))) (.one 2) (vNot (vTru (vCallN 2 (c 25) (vCons (vOp opIx (vVar 0) (vVar 2)) (vCons (vOp opIx (vVar 1) (vVar 2)) (vNil)))))) (vC (.int 1)) [2]) (vLst (vNil))))) (sNil))
    (sSeq (sIf (vTest (vOp opIs (vVar 1) (vC .non))) (sRet (vOp opIs (vVar 0) (vC .non))) (sNil))
    (sSeq (sIf (vTest (vOp opIs (vVar 1) (vC (.bl true)))) (sRet (vOp opIs (vVar 0) (vC (.bl true)))) (sNil))
    (sSeq (sIf (vTest (vOp opIs (vVar 1) (vC (.bl false)))) (sRet (vOp opIs (vVar 0) (vC (.bl false)))) (sNil))
    (sSeq (sIf (vTru (vIsi .str (vVar 1))) (sRet (vAndT (vIsi .str (vVar 0)) (vOp opEq (vM "str" mJoin (vC (.str z_empty)) (vCons (vLst (vCons (vVar 0) (vNil))) (vNil))) (vVar 1)))) (sNil))
    (sRet (vAndT (vIsi .int (vVar 0)) (vAndT (vBl (vNot (vTru (vIsi .bool (vVar 0))))) (vOp opEq (vVar 0) (vVar 1)))))))))
/-- _law_bent_text: 0 box, 1 text, 2 signs, 3 kind, 4 lines, 5 at, 6 row -/
noncomputable def m__law_bent_text (c : Nat → Fn) : SMs :=
  sSeq (sPar 3 4 (vCallN 2 (c 21) (vCons (vVar 0) (vCons (vC (.int 9)) (vNil)))) (vM "str" mSplit (vVar 1) (vCons (vC (.str z_nl)) (vNil))))
    (sSeq (sAsg (vOp opMod (vB fInt (vCons (vOp opAdd (vOp opMul (vCallN 2 (c 21) (vCons (vVar 0) (vCons (vC (.int 1009)) (vNil)))) (vC (.int 1009))) (vCallN 2 (c 21) (vCons (vVar 0) (vCons (vC (.int 1009)) (vNil))))) (vNil))) (vOp opAdd (vB fLen (vCons (vVar 1) (vNil))) (vC (.int 1)))) (gName 5))
    (sSeq (sAsg (vCallN 2 (c 21) (vCons (vVar 0) (vCons (vB fLen (vCons (vVar 4) (vNil))) (vNil)))) (gName 6))
    (sSeq (sIf (vTest (vOp opEq (vVar 3) (vC (.int 0)))) (sRet (vOp opAdd (vSl (vVar 1) (vNo) (vPart (vVar 5))) (vSl (vVar 1) (vPart (vOp opAdd (vVar 5) (vC (.int 1)))) (vNo)))) (sNil))
    (sSeq (sIf (vTest (vOp opEq (vVar 3) (vC (.int 1)))) (sRet (vOp opAdd (vOp opAdd (vSl (vVar 1) (vNo) (vPart (vVar 5))) (vSl (vVar 1) (vPart (vVar 5)) (vPart (vOp opAdd (vVar 5) (vC (.int 1)))))) (vSl (vVar 1) (vPart (vVar 5)) (vNo)))) (sNil))
    (sSeq (sIf (vTest (vOp opEq (vVar 3) (vC (.int 2)))) (sRet (vOp opAdd (vOp opAdd (vSl (vVar 1) (vNo) (vPart (vVar 5))) (vCallN 2 (c 22) (vCons (vVar 0) (vCons (vVar 2) (vNil))))) (vSl (vVar 1) (vPart (vOp opAdd (vVar 5) (vC (.int 1)))) (vNo)))) (sNil))
    (sSeq (sIf (vTest (vOp opEq (vVar 3) (vC (.int 3)))) (sRet (vOp opAdd (vOp opAdd (vOp opAdd (vSl (vVar 1) (vNo) (vPart (vVar 5))) (vSl (vVar 1) (vPart (vOp opAdd (vVar 5) (vC (.int 1)))) (vPart (vOp opAdd (vVar 5) (vC (.int 2)))))) (vSl (vVar 1) (vPart (vVar 5)) (vPart (vOp opAdd (vVar 5) (vC (.int 1)))))) (vSl (vVar 1) (vPart (vOp opAdd (vVar 5) (vC (.int 2)))) (vNo)))) (sNil))
    (sSeq (sIf (vTest (vOp opEq (vVar 3) (vC (.int 4)))) (sRet (vM "str" mJoin (vC (.str z_nl)) (vCons (vOp opAdd (vSl (vVar 4) (vNo) (vPart (vVar 6))) (vSl (vVar 4) (vPart (vOp opAdd (vVar 6) (vC (.int 1)))) (vNo))) (vNil)))) (sNil))
    (sSeq (sIf (vTest (vOp opEq (vVar 3) (vC (.int 5)))) (sRet (vM "str" mJoin (vC (.str z_nl)) (vCons (vOp opAdd (vOp opAdd (vSl (vVar 4) (vNo) (vPart (vVar 6))) (vSl (vVar 4) (vPart (vVar 6)) (vPart (vOp opAdd (vVar 6) (vC (.int 1)))))) (vSl (vVar 4) (vPart (vVar 6)) (vNo))) (vNil)))) (sNil))
    (sSeq (sIf (vTest (vOp opEq (vVar 3) (vC (.int 6)))) (sRet (vM "str" mJoin (vC (.str z_nl)) (vCons (vOp opAdd (vOp opAdd (vOp opAdd (vSl (vVar 4) (vNo) (vPart (vVar 6))) (vSl (vVar 4) (vPart (vOp opAdd (vVar 6) (vC (.int 1)))) (vPart (vOp opAdd (vVar 6) (vC (.int 2)))))) (vSl (vVar 4) (vPart (vVar 6)) (vPart (vOp opAdd (vVar 6) (vC (.int 1)))))) (vSl (vVar 4) (vPart (vOp opAdd (vVar 6) (vC (.int 2)))) (vNo))) (vNil)))) (sNil))
    (sSeq (sIf (vTest (vOp opEq (vVar 3) (vC (.int 7)))) (sRet (vOp opAdd (vOp opAdd (vSl (vVar 1) (vNo) (vPart (vVar 5))) (vCallN 2 (c 22) (vCons (vVar 0) (vCons (vVar 2) (vNil))))) (vSl (vVar 1) (vPart (vVar 5)) (vNo)))) (sNil))
    (sRet (vCallN 2 (c 22) (vCons (vVar 0) (vCons (vLst (vCons (vSl (vVar 1) (vNo) (vPart (vNeg (vC (.int 1))))) (vCons (vOp opAdd (vVar 1) (vC (.str z_nl))) (vCons (vOp opAdd (vVar 1) (vC (.str z_sp))) (vCons (vOp opAdd (vC (.str z_sp)) (vVar 1)) (vCons (vC (.str z_empty)) (vCons (vC (.str z_nl)) (vNil)))))))) (vNil)))))))))))))))
/-- _law_code: 0 box, 1 many, 2 found, 3 k, 4 kind, 5 goal -/
noncomputable def m__law_code (c : Nat → Fn) : SMs :=
  sSeq (sAsg (vOp opAdd (vC (.int 1)) (vCallN 2 (c 21) (vCons (vVar 0) (vCons (vC (.int 9)) (vNil))))) (gName 1))
    (sSeq (sAsg (vLst (vNil)) (gName 2))
    (sSeq (sFor (vRange1 (vVar 1)) (gName 3) (sSeq (sPar 4 5 (vCallN 2 (c 21) (vCons (vVar 0) (vCons (vC (.int 8)) (vNil)))) (vCallN 2 (c 21) (vCons (vVar 0) (vCons (vOp opAdd (vVar 1) (vC (.int 1))) (vNil)))))
    (sIf (vTest (vOp opLt (vVar 4) (vC (.int 2)))) (sExpr (vM "list" mAppend (vVar 2) (vCons (vTup (vCons (vC (.str z_do)) (vCons (vCallN 2 (c 22) (vCons (vVar 0) (vCons (vLst (vCons (vC (.str z_p)) (vCons (vC (.str z_q)) (vCons (vC (.str z_abcdef)) (vNil))))) (vNil)))) (vNil)))) (vNil)))) (sIf (vTest (vOp opLt (vVar 4) (vC (.int 4)))) (sExpr (vM "list" mAppend (vVar 2) (vCons (vTup (vCons (vC (.str z_go)) (vCons (vB fInt (vCons (vVar 5) (vNil))) (vNil)))) (vNil)))) (sIf (vTest (vOp opLt (vVar 4) (vC (.int 7)))) (sExpr (vM "list" mAppend (vVar 2) (vCons (vTup (vCons (vC (.str z_unless)) (vCons (vCallN 3 (c 24) (vCons (vVar 0) (vCons (vTup (vCons (vC (.str z_a)) (vCons (vC (.str z_b)) (vNil)))) (vCons (vC (.int 2)) (vNil))))) (vCons (vB fInt (vCons (vVar 5) (vNil))) (vNil))))) (vNil)))) (sExpr (vM "list" mAppend (vVar 2) (vCons (vTup (vCons (vC (.str z_stop)) (vNil))) (vNil)))))))))
    (sRet (vB fTuple (vCons (vVar 2) (vNil))))))
/-- _law_read: 0 text, 1 e -/
noncomputable def m__law_read (c : Nat → Fn) : SMs :=
  sTry (sRet (vTup (vCons (vC (.bl true)) (vCons (vCallN 1 (c 18) (vCons (vVar 0) (vNil))) (vNil))))) [⟨mtOf [(39, false), (40, true)], some 1, fun c1 fs1 => vTup (vCons (vC (.bl false)) (vCons (vXf [40] 1 c1 fs1) (vNil)))⟩, ⟨mtOf [(39, true), (40, false)], some 1, fun c1 fs1 => vTup (vCons (vC (.bl false)) (vCons (vXf [39] 0 c1 fs1) (vNil)))⟩]
/-- _law_is_refused: 0 line, 1 told -/
noncomputable def m__law_is_refused (c : Nat → Fn) : SMs :=
  sSeq (sAsg (vCallN 1 (c 28) (vCons (vOp opAdd (vVar 0) (vC (.str z_nl))) (vNil))) (gName 1))
    (sRet (vOp opEq (vVar 1) (vTup (vCons (vC (.bl false)) (vCons (vC (.int 0)) (vNil))))))
/-- law: 0 script, 1 box, 2 code, 3 text, 4 signs, 5 turn, 6 bent, 7 good, 8 told, 9 lines, 10 line -/
noncomputable def m_law (c : Nat → Fn) : SMs :=
  sSeq (sAsg (vLst (vCons (vCallN 3 (c 20) (vCons (vVar 0) (vCons (vC (.int 0)) (vCons (vC (.int 63)) (vNil))))) (vCons (vC (.int 0)) (vNil)))) (gName 1))
    (sSeq (sAsg (vCallN 1 (c 27) (vCons (vVar 1) (vNil))) (gName 2))
    (sSeq (sAsg (vCallN 1 (c 17) (vCons (vVar 2) (vNil))) (gName 3))
    (sSeq (sIf (vNot (vTru (vCallN 2 (c 25) (vCons (vCallN 1 (c 28) (vCons (vVar 3) (vNil))) (vCons (vTup (vCons (vC (.bl true)) (vCons (vVar 2) (vNil)))) (vNil)))))) (sRet (vC (.bl false))) (sNil))
    (sSeq (sAsg (vLst (vCons (vC (.str z_sp)) (vCons (vC (.str z_0)) (vCons (vC (.str z_1)) (vCons (vC (.str z_9)) (vCons (vC (.str z_a)) (vCons (vC (.str z_p)) (vCons (vC (.str z_bang)) (vCons (vC (.str z_lp)) (vCons (vC (.str z_rp)) (vCons (vC (.str z_amp)) (vCons (vC (.str z_bar)) (vCons (vC (.str z_nl)) (vCons (vC (.str z_go)) (vCons (vC (.str z_00)) (vCons (vC (.str z_if)) (vCons (vC (.str z_A)) (vNil)))))))))))))))))) (gName 4))
    (sSeq (sFor (vRange1 (vC (.int 16))) (gName 5) (sSeq (sAsg (vCallN 3 (c 26) (vCons (vVar 1) (vCons (vVar 3) (vCons (vVar 4) (vNil))))) (gName 6))
    (sSeq (sAsg (vCallN 1 (c 28) (vCons (vVar 6) (vNil))) (gTup 2 (gCons (gName 7) (gCons (gName 8) (gNil)))))
    (sSeq (sAsg (vM "str" mSplit (vVar 6) (vCons (vC (.str z_nl)) (vNil))) (gName 9))
    (sIf (vTru (vVar 7)) (sIf (vOr (vTest (vOp opIsn (vCallN 1 (c 14) (vCons (vVar 8) (vNil))) (vC .non))) (vOr (vTest (vOp opNe (vCallN 1 (c 17) (vCons (vVar 8) (vNil))) (vVar 6))) (vAnd (vTest (vOp opNe (vVar 6) (vVar 3))) (vTru (vCallN 2 (c 23) (vCons (vVar 8) (vCons (vVar 2) (vNil)))))))) (sRet (vC (.bl false))) (sNil)) (sIf (vTest (vOp opEq (vVar 8) (vC (.str z_code)))) (sIf (vOr (vTest (vOp opEq (vVar 6) (vVar 3))) (vOr (vTest (vOp opNe (vOp opIx (vVar 9) (vNeg (vC (.int 1)))) (vC (.str z_empty)))) (vTest (vOp opNe (vComp (vIter (vSl (vVar 9) (vNo) (vPart (vNeg (vC (.int 1)))))) (.one 10) (vTru (vCallN 1 (c 29) (vCons (vVar 10) (vNil)))) (vVar 10) [10]) (vLst (vNil)))))) (sRet (vC (.bl false))) (sNil)) (sSeq (sIf (vOr (vTest (vOp opEq (vVar 6) (vVar 3))) (vOr (vNot (vTru (vIsi .int (vVar 8)))) (vOr (vTru (vIsi .bool (vVar 8))) (vNot (vTest (vChain opLe opLt (vC (.int 0)) (vVar 8) (vB fLen (vCons (vVar 9) (vNil))))))))) (sRet (vC (.bl false))) (sNil))
    (sSeq (sIf (vOr (vTest (vOp opNe (vComp (vIter (vSl (vVar 9) (vNo) (vPart (vVar 8)))) (.one 10) (vTru (vCallN 1 (c 29) (vCons (vVar 10) (vNil)))) (vVar 10) [10]) (vLst (vNil)))) (vAnd (vTest (vOp opLt (vVar 8) (vOp opSub (vB fLen (vCons (vVar 9) (vNil))) (vC (.int 1))))) (vNot (vTru (vCallN 1 (c 29) (vCons (vOp opIx (vVar 9) (vVar 8)) (vNil))))))) (sRet (vC (.bl false))) (sNil))
    (sIf (vAnd (vTest (vOp opEq (vVar 8) (vOp opSub (vB fLen (vCons (vVar 9) (vNil))) (vC (.int 1))))) (vTest (vOp opEq (vOp opIx (vVar 9) (vNeg (vC (.int 1)))) (vC (.str z_empty))))) (sRet (vC (.bl false))) (sNil))))))))))
    (sSeq (sIf (vOr (vNot (vTru (vCallN 2 (c 25) (vCons (vCallN 1 (c 28) (vCons (vC .non) (vNil))) (vCons (vTup (vCons (vC (.bl false)) (vCons (vC (.str z_text)) (vNil)))) (vNil)))))) (vNot (vTru (vCallN 2 (c 25) (vCons (vCallN 1 (c 28) (vCons (vC (.str z_empty)) (vNil))) (vCons (vTup (vCons (vC (.bl true)) (vCons (vTup (vNil)) (vNil)))) (vNil))))))) (sRet (vC (.bl false))) (sNil))
    (sRet (vAndT (vCallN 2 (c 25) (vCons (vCallN 1 (c 28) (vCons (vC (.str z_go_1_)) (vNil))) (vCons (vTup (vCons (vC (.bl true)) (vCons (vTup (vCons (vTup (vCons (vC (.str z_go)) (vCons (vC (.int 1)) (vNil)))) (vNil))) (vNil)))) (vNil)))) (vCallN 2 (c 25) (vCons (vCallN 1 (c 28) (vCons (vC (.str z_go_2_)) (vNil))) (vCons (vTup (vCons (vC (.bl false)) (vCons (vC (.str z_code)) (vNil)))) (vNil))))))))))))
/-- Signs.__init__: 0 self, 1 text -/
noncomputable def m_Signs___init__ (c : Nat → Fn) : SMs :=
  sSeq (sFld [41] 9 (vVar 0) (vCallN 1 (c 3) (vCons (vVar 1) (vNil))))
    (sSeq (sFld [41] 8 (vVar 0) (vB fLen (vCons (vVar 1) (vNil))))
    (sFld [41] 7 (vVar 0) (vC (.int 0))))
/-- Signs.place: 0 self -/
noncomputable def m_Signs_place (c : Nat → Fn) : SMs :=
  sRet (vIf (vTest (vOp opLt (vFld [41] 7 (vVar 0)) (vB fLen (vCons (vFld [41] 9 (vVar 0)) (vNil))))) (vOp opIx (vOp opIx (vFld [41] 9 (vVar 0)) (vFld [41] 7 (vVar 0))) (vC (.int 2))) (vFld [41] 8 (vVar 0)))
/-- Signs.sees: 0 self, 1 text -/
noncomputable def m_Signs_sees (c : Nat → Fn) : SMs :=
  sRet (vAndT (vOp opLt (vFld [41] 7 (vVar 0)) (vB fLen (vCons (vFld [41] 9 (vVar 0)) (vNil)))) (vOp opEq (vOp opIx (vOp opIx (vFld [41] 9 (vVar 0)) (vFld [41] 7 (vVar 0))) (vC (.int 1))) (vVar 1)))
/-- Signs.word: 0 self -/
noncomputable def m_Signs_word (c : Nat → Fn) : SMs :=
  sSeq (sIf (vAnd (vTest (vOp opLt (vFld [41] 7 (vVar 0)) (vB fLen (vCons (vFld [41] 9 (vVar 0)) (vNil))))) (vTest (vOp opEq (vOp opIx (vOp opIx (vFld [41] 9 (vVar 0)) (vFld [41] 7 (vVar 0))) (vC (.int 0))) (vC (.str z_word))))) (sRet (vOp opIx (vOp opIx (vFld [41] 9 (vVar 0)) (vFld [41] 7 (vVar 0))) (vC (.int 1)))) (sNil))
    (sRet (vC .non))
/-- Signs.take: 0 self, 1 text -/
noncomputable def m_Signs_take (c : Nat → Fn) : SMs :=
  sSeq (sIf (vNot (vTru (vMeth 41 6 2 (c 33) (vVar 0) (vCons (vVar 1) (vNil))))) (sRaise 40 1 [(1, 0)] (vCons (vMeth 41 1 1 (c 32) (vVar 0) vNil) (vNil))) (sNil))
    (sFldAug [41] 7 opIadd (vVar 0) (vC (.int 1)))
/-- Signs.took: 0 self, 1 text -/
noncomputable def m_Signs_took (c : Nat → Fn) : SMs :=
  sSeq (sIf (vTru (vMeth 41 6 2 (c 33) (vVar 0) (vCons (vVar 1) (vNil)))) (sSeq (sFldAug [41] 7 opIadd (vVar 0) (vC (.int 1)))
    (sRet (vC (.bl true)))) (sNil))
    (sRet (vC (.bl false)))
/-- Signs.done: 0 self -/
noncomputable def m_Signs_done (c : Nat → Fn) : SMs :=
  sIf (vTest (vOp opLt (vFld [41] 7 (vVar 0)) (vB fLen (vCons (vFld [41] 9 (vVar 0)) (vNil))))) (sRaise 40 1 [(1, 0)] (vCons (vMeth 41 1 1 (c 32) (vVar 0) vNil) (vNil))) (sNil)
noncomputable def body (c : Nat → Fn) : Nat → Fn
  | 0 => runF 1 (m_is_integer c)
  | 1 => runF 2 (m_is_name c)
  | 2 => runF 2 (m_is_figures c)
  | 3 => runF 4 (m_signs_of c)
  | 4 => runF 6 (m_is_test c)
  | 5 => runF 2 (m_inner_of c)
  | 6 => runF 1 (m_check_test c)
  | 7 => runF 1 (m_format_test c)
  | 8 => runF 4 (m_written c)
  | 9 => runF 4 (m_bracketed c)
  | 10 => runF 3 (m_read_test c)
  | 11 => runF 3 (m_read_or c)
  | 12 => runF 3 (m_read_and c)
  | 13 => runF 4 (m_read_least c)
  | 14 => runF 3 (m_code_fault c)
  | 15 => runF 2 (m_is_line c)
  | 16 => runF 1 (m_check_code c)
  | 17 => runF 4 (m_format_code c)
  | 18 => runF 6 (m_read_code c)
  | 19 => runF 4 (m_line_of c)
  | 20 => runF 8 (m__law_digits c)
  | 21 => runF 3 (m__law_draw c)
  | 22 => runF 2 (m__law_pick c)
  | 23 => runF 2 (m__law_same c)
  | 24 => runF 4 (m__law_test c)
  | 25 => runF 3 (m__law_like c)
  | 26 => runF 7 (m__law_bent_text c)
  | 27 => runF 6 (m__law_code c)
  | 28 => runF 2 (m__law_read c)
  | 29 => runF 2 (m__law_is_refused c)
  | 30 => runF 11 (m_law c)
  | 31 => runF 2 (m_Signs___init__ c)
  | 32 => runF 1 (m_Signs_place c)
  | 33 => runF 2 (m_Signs_sees c)
  | 34 => runF 1 (m_Signs_word c)
  | 35 => runF 2 (m_Signs_take c)
  | 36 => runF 2 (m_Signs_took c)
  | 37 => runF 1 (m_Signs_done c)
  | _ => fun _ _ => .bad
/-- def i with fuel k -/
noncomputable def callF : Nat → Nat → Fn
  | 0, _ => fun _ _ => .bad
  | k + 1, i => body (callF k) i
end Gm.K28

set_option Elab.async false
set_option linter.all false
set_option maxRecDepth 100000
set_option autoImplicit false
namespace Gm.K28
open Gm
def letters : List Nat := z_abcdefghijklmnopqrstuvwx
def wordsL : List (List Nat) := [z_skip, z_stop, z_assume, z_if, z_else, z_while, z_choose, z_or, z_loop, z_yes, z_no]
def isName (s : List Nat) : Bool := decide (1 ≤ s.length) && decide (s.length ≤ 6) && !(wordsL.any fun w => w == s) && s.all fun c => decide (c ∈ letters)
theorem f_is_name (k : Nat) (s : List Nat) (M : Hh) (h : s.length ≤ 16777216) : callF (k + 1) 1 [.str s] M = .ok (.bl (isName s)) M := by
  show runF 2 (m_is_name (callF k)) [.str s] M = _
  refine run_ok ?_ rfl
  have hc : ∀ M : Hh, compF (fun i _ => some (s[i]?.map fun c => D.str [c])) (.one 1) vYes (vOp opIn (vVar 1) (vC k_LETTERS)) M.length (wipeE [some (.str s), none] [1]) NN 0 (M ++ [.lst []]) = .ok (.loc M.length) (M ++ [.lst (s.map fun c => D.bl (decide (c ∈ letters)))]) := by
    intro M
    rw [comp_map (items := s.map fun c => D.str [c]) (fun d => match d with | .str [c] => .bl (decide (c ∈ letters)) | _ => .non) (fun i M' => iterS_items s i) (by simpa using h)]
    · simp
    · intro d hd
      obtain ⟨c, _, rfl⟩ := List.mem_map.mp hd
      exact ⟨_, rfl, fun M' => rfl⟩
  simp only [m_is_name, start1, es_seq, es_if, ev_or, ev_not, ev_tru, ev_isi, ev_var, List.replicate]
  have hm : memD (D.str s) [D.str z_skip, D.str z_stop, D.str z_assume, D.str z_if, D.str z_else, D.str z_while, D.str z_choose, D.str z_or, D.str z_loop, D.str z_yes, D.str z_no] = wordsL.any fun w => w == s := rfl
  simp [tyOf, subTy, truD, fLen, h, opCmpI, opIn, inD, seeD, pureD, pureDs, deps, dep]
  rw [hm]
  by_cases h1 : 1 ≤ s.length
  · by_cases h2 : s.length ≤ 6
    · have e1 : (1 : Int) ≤ (s.length : Int) := by omega
      have e2 : (s.length : Int) ≤ 6 := by omega
      cases hw : (wordsL.any fun w => w == s) with
      | true => exact ⟨[], by simp [e1, e2, isName, hw]⟩
      | false => exact ⟨[.lst (s.map fun c => .bl (decide (c ∈ letters)))], by simp [e1, e2, isName, hw, hc, fAll, bls_map, h1, h2, List.all_map, Function.comp_def]⟩
    · have e1 : (1 : Int) ≤ (s.length : Int) := by omega
      have e2 : ¬ (s.length : Int) ≤ 6 := by omega
      exact ⟨[], by simp [e1, e2, isName, h2]⟩
  · have e1 : ¬ (1 : Int) ≤ (s.length : Int) := by omega
    exact ⟨[], by simp [e1, isName, h1]⟩
theorem f_is_name_non (k : Nat) (M : Hh) : callF (k + 1) 1 [.non] M = .ok (.bl false) M := by
  show runF 2 (m_is_name (callF k)) [.non] M = _
  refine run_ok ⟨[], ?_⟩ rfl
  simp [m_is_name, start1, tyOf, subTy, truD, List.replicate]
theorem f_is_integer (k : Nat) (i : Int) (M : Hh) : callF (k + 1) 0 [.int i] M = .ok (.bl true) M := by
  show runF 1 (m_is_integer (callF k)) [.int i] M = _
  refine run_ok ⟨[], ?_⟩ rfl
  simp [m_is_integer, start1, tyOf, subTy, truD]
/-- one to three figures, written as they should be -/
def tenths : List Nat := z_0123456789
def isFigs (s : List Nat) : Bool := decide (1 ≤ s.length) && decide (s.length ≤ 3) && (s.all fun c => decide (c ∈ tenths)) && match figsVal s with
  | some n => figs n == s
  | none => false
theorem figs_small {s : List Nat} {n : Int} (h : figsVal s = some n) (hl : s.length ≤ 3) : 0 ≤ n ∧ n < 1000 := by
  unfold figsVal at h
  split at h
  · rename_i hc
    cases h
    obtain ⟨_, _, hd⟩ := hc
    rw [List.all_eq_true] at hd
    have dg : ∀ c ∈ s, 48 ≤ c ∧ c ≤ 57 := fun c hc => by simpa using hd c hc
    match s, hl, dg with
    | [], _, _ => simp
    | [a], _, dg =>
      have := dg a (by simp)
      simp only [List.foldl]; omega
    | [a, b], _, dg =>
      have := dg a (by simp)
      have := dg b (by simp)
      simp only [List.foldl]; omega
    | [a, b, c], _, dg =>
      have := dg a (by simp)
      have := dg b (by simp)
      have := dg c (by simp)
      simp only [List.foldl]; omega
    | a :: b :: c :: d :: r, hl, _ => simp at hl
  · cases h
theorem small_log {n : Int} (h0 : 0 ≤ n) (h : n < 1000) : n.natAbs.log2 < 1920 := by
  have : n.natAbs < 2 ^ 1920 := Nat.lt_of_lt_of_le (by omega : n.natAbs < 2 ^ 10) (Nat.pow_le_pow_right (by decide) (by decide))
  by_cases hz : n.natAbs = 0
  · rw [hz]; decide
  · exact (Nat.log2_lt hz).mpr this
theorem f_is_figures (k : Nat) (s : List Nat) (M : Hh) (h : s.length ≤ 16777216) : callF (k + 1) 2 [.str s] M = .ok (.bl (isFigs s)) M := by
  show runF 2 (m_is_figures (callF k)) [.str s] M = _
  refine run_ok ?_ rfl
  have hc : ∀ M : Hh, compF (fun i _ => some (s[i]?.map fun c => D.str [c])) (.one 1) vYes (vOp opIn (vVar 1) (vC (.str z_0123456789))) M.length (wipeE [some (.str s), none] [1]) NN 0 (M ++ [.lst []]) = .ok (.loc M.length) (M ++ [.lst (s.map fun c => D.bl (decide (c ∈ tenths)))]) := by
    intro M
    rw [comp_map (items := s.map fun c => D.str [c]) (fun d => match d with | .str [c] => .bl (decide (c ∈ tenths)) | _ => .non) (fun i M' => iterS_items s i) (by simpa using h)]
    · simp
    · intro d hd
      obtain ⟨c, _, rfl⟩ := List.mem_map.mp hd
      exact ⟨_, rfl, fun M' => rfl⟩
  simp only [m_is_figures, start1, List.replicate]
  simp [fLen, h, opCmpI, truD]
  by_cases h1 : 1 ≤ s.length
  · by_cases h2 : s.length ≤ 3
    · have e1 : (1 : Int) ≤ (s.length : Int) := by omega
      have e2 : (s.length : Int) ≤ 3 := by omega
      refine ⟨[.lst (s.map fun c => .bl (decide (c ∈ tenths)))], ?_⟩
      simp [e1, e2, truD, hc, fAll, bls_map, List.all_map, Function.comp_def]
      cases ha : s.all fun c => decide (c ∈ tenths) with
      | false => simp [isFigs, ha]
      | true =>
        have hd : (s.all fun c => decide (48 ≤ c) && decide (c ≤ 57)) = true := by
          rw [List.all_eq_true] at ha ⊢
          intro c hc
          have := of_decide_eq_true (ha c hc)
          simp only [tenths, z_0123456789, List.mem_cons, List.not_mem_nil, or_false] at this
          simp only [Bool.and_eq_true, decide_eq_true_eq]
          omega
        have hne : s ≠ [] := fun z => by rw [z] at h1; simp at h1
        obtain ⟨n, hn⟩ : ∃ n, figsVal s = some n := by
          unfold figsVal
          rw [if_pos ⟨hne, by omega, hd⟩]
          exact ⟨_, rfl⟩
        have small : n.natAbs.log2 < 1920 := small_log (figs_small hn h2).1 (figs_small hn h2).2
        simp [fInt, hn, fStr, small, opEq, seeD, pureD, dep, deq, isFigs, ha, h1, h2]
    · have e1 : (1 : Int) ≤ (s.length : Int) := by omega
      have e2 : ¬ (s.length : Int) ≤ 3 := by omega
      exact ⟨[], by simp [e1, e2, isFigs, h2, truD]⟩
  · have e1 : ¬ (1 : Int) ≤ (s.length : Int) := by omega
    exact ⟨[], by simp [e1, isFigs, h1, truD]⟩
end Gm.K28

set_option Elab.async false
set_option linter.all false
set_option maxRecDepth 100000
set_option maxHeartbeats 1000000
set_option autoImplicit false
namespace Gm.K28
open Gm
inductive Te where
  | yes | no | is (n : List Nat) | not (t : Te) | and (a b : Te) | or (a b : Te)
  deriving DecidableEq
namespace Te
def toD : Te → D
  | yes => .tup [.str z_yes]
  | no => .tup [.str z_no]
  | is n => .tup [.str z_is, .str n]
  | not t => .tup [.str z_not, toD t]
  | and a b => .tup [.str z_and, toD a, toD b]
  | or a b => .tup [.str z_or, toD a, toD b]
def ok : Te → Bool
  | yes => true
  | no => true
  | is n => isName n
  | not t => ok t
  | and a b => ok a && ok b
  | or a b => ok a && ok b
def depth : Te → Nat
  | yes => 1
  | no => 1
  | is _ => 1
  | not t => depth t + 1
  | and a b => max (depth a) (depth b) + 1
  | or a b => max (depth a) (depth b) + 1
def size : Te → Nat
  | yes => 1
  | no => 1
  | is _ => 1
  | not t => size t + 1
  | and a b => size a + size b + 1
  | or a b => size a + size b + 1
def kids : Te → List Te
  | not t => [t]
  | and a b => [a, b]
  | or a b => [a, b]
  | _ => []
theorem pure_toD : ∀ t : Te, pureD (toD t) = true
  | yes => rfl
  | no => rfl
  | is _ => rfl
  | not t => by simp [toD, pureD, pureDs, pure_toD t]
  | and a b => by simp [toD, pureD, pureDs, pure_toD a, pure_toD b]
  | or a b => by simp [toD, pureD, pureDs, pure_toD a, pure_toD b]
theorem size_pos (t : Te) : 1 ≤ size t := by cases t <;> simp [size]
end Te
open Te
theorem isName_len {s : List Nat} (h : isName s = true) : s.length ≤ 6 := by
  simp only [isName, Bool.and_eq_true, decide_eq_true_eq] at h
  exact h.1.1.2
theorem isName_small {s : List Nat} (h : isName s = true) : s.length ≤ 16777216 := Nat.le_trans (isName_len h) (by decide)
/-- inner_of of a test -/
theorem f_inner (k : Nat) (t : Te) (M : Hh) (h : t.ok = true) : callF (k + 2) 5 [t.toD] M = .ok (.tup (t.kids.map toD)) M := by
  show runF 2 (m_inner_of (callF (k + 1))) [t.toD] M = _
  have hin : ∀ d : D, seeD M d = some d → (∀ n : Nat, min 1 n ≤ 150) → opIn d (.tup [D.tup [D.str z_yes], D.tup [D.str z_no]]) M = some (.bl (memD d [D.tup [D.str z_yes], D.tup [D.str z_no]]), M) := by
    intro d hd _
    have : min (deps [D.tup [D.str z_yes], D.tup [D.str z_no]]) (dep d) ≤ 150 := Nat.le_trans (Nat.min_le_left _ _) (by decide)
    have hs2 : seeD M (.tup [D.tup [D.str z_yes], D.tup [D.str z_no]]) = some (.tup [D.tup [D.str z_yes], D.tup [D.str z_no]]) := rfl
    simp [opIn, inD, hd, hs2, this]
  have m1 : ∀ n : Nat, min 1 n ≤ 150 := fun n => Nat.le_trans (Nat.min_le_left _ _) (by decide)
  have ep := pure_toD t
  refine run_ok ⟨[], ?_⟩ (by cases t <;> simp_all [toD, kids, pureD, pureDs])
  cases t with
  | yes =>
    have e0 := hin (.tup [.str z_yes]) rfl m1
    have e1 : memD (.tup [.str z_yes]) [D.tup [D.str z_yes], D.tup [D.str z_no]] = true := by decide
    simp [m_inner_of, start1, toD, kids, e0, e1]
  | no =>
    have e0 := hin (.tup [.str z_no]) rfl m1
    have e1 : memD (.tup [.str z_no]) [D.tup [D.str z_yes], D.tup [D.str z_no]] = true := by decide
    simp [m_inner_of, start1, toD, kids, e0, e1]
  | is n =>
    have e0 := hin (.tup [.str z_is, .str n]) rfl m1
    have e1 : memD (.tup [.str z_is, .str n]) [D.tup [D.str z_yes], D.tup [D.str z_no]] = false := by simp [memD, deq, deqs]
    have hn : isName n = true := h
    simp [m_inner_of, start1, toD, kids, e0, e1, f_is_name k n M (isName_small hn), hn]
  | not t =>
    have e0 := hin (.tup [.str z_not, t.toD]) (by simp only [seeD, toD] at ep ⊢; rw [ep]; rfl) m1
    have e1 : memD (.tup [.str z_not, t.toD]) [D.tup [D.str z_yes], D.tup [D.str z_no]] = false := by simp [memD, deq, deqs]
    have c1 : (z_not == z_is) = false := by decide
    simp [m_inner_of, start1, toD, kids, e0, e1, c1]
  | and a b =>
    have e0 := hin (.tup [.str z_and, a.toD, b.toD]) (by simp only [seeD, toD] at ep ⊢; rw [ep]; rfl) m1
    have e1 : memD (.tup [.str z_and, a.toD, b.toD]) [D.tup [D.str z_yes], D.tup [D.str z_no]] = false := by simp [memD, deq, deqs]
    have c1 : (z_and == z_is) = false := by decide
    have c2 : (z_and == z_not) = false := by decide
    simp [m_inner_of, start1, toD, kids, e0, e1, c1, c2]
  | or a b =>
    have e0 := hin (.tup [.str z_or, a.toD, b.toD]) (by simp only [seeD, toD] at ep ⊢; rw [ep]; rfl) m1
    have e1 : memD (.tup [.str z_or, a.toD, b.toD]) [D.tup [D.str z_yes], D.tup [D.str z_no]] = false := by simp [memD, deq, deqs]
    have c1 : (z_or == z_is) = false := by decide
    have c2 : (z_or == z_not) = false := by decide
    simp [m_inner_of, start1, toD, kids, e0, e1, c1, c2]
/-! ### is_test -/
abbrev cell (p : Te × Nat) : D := .tup [p.1.toD, .int p.2]
def sizes (st : List (Te × Nat)) : Nat := (st.map fun p => p.1.size).sum
def fits (st : List (Te × Nat)) : Bool := st.all fun p => decide (p.2 + p.1.depth ≤ 11)
theorem kids_size (t : Te) (d : Nat) : sizes (t.kids.map fun o => (o, d)) + 1 = t.size := by
  cases t <;> simp [kids, sizes, Te.size] <;> omega
theorem kids_fit (t : Te) (d : Nat) (h : d ≤ 10) : fits (t.kids.map fun o => (o, d + 1)) = decide (d + t.depth ≤ 11) := by
  rw [Bool.eq_iff_iff, decide_eq_true_iff]
  cases t with
  | yes => simp [kids, fits, Te.depth]; omega
  | no => simp [kids, fits, Te.depth]; omega
  | is n => simp [kids, fits, Te.depth]; omega
  | not t => simp [kids, fits, Te.depth]; omega
  | and a b => simp [kids, fits, Te.depth]; omega
  | or a b => simp [kids, fits, Te.depth]; omega
theorem kids_ok (t : Te) (h : t.ok = true) : ∀ o ∈ t.kids, o.ok = true := by
  cases t <;> simp_all [kids, Te.ok]
noncomputable def bIsTest (k : Nat) : SMs := sSeq (sAsg (vM "list" mPop (vVar 1) vNil) (gTup 2 (gCons (gName 2) (gCons (gName 3) (gNil)))))
    (sSeq (sAsg (vCallN 1 (callF k 5) (vCons (vVar 2) (vNil))) (gName 4))
    (sSeq (sIf (vOr (vTest (vOp opIs (vVar 4) (vC .non))) (vTest (vOp opGt (vVar 3) (vC k_MOST_DEEP)))) (sRet (vC (.bl false))) (sNil))
    (sAug 1 opIadd (vComp (vIterT (vVar 4)) (.one 5) (vYes) (vTup (vCons (vVar 5) (vCons (vOp opAdd (vVar 3) (vC (.int 1))) (vNil)))) [5]))))
theorem body_is_test (k : Nat) (M G : Hh) (st : List (Te × Nat)) (t : Te) (d : Nat) (a x y z : Option D) (h : t.ok = true) (hl : st.length ≤ 1000000) :
    bIsTest (k + 2) [a, some (.loc M.length), x, y, z, none] (M ++ .lst ((st ++ [(t, d)]).map cell) :: G) = if 10 < d then .ret (.bl false) (M ++ .lst (st.map cell) :: G)
      else .nx [a, some (.loc M.length), some t.toD, some (.int d), some (.tup (t.kids.map toD)), none] (M ++ .lst ((st ++ t.kids.map fun o => (o, d + 1)).map cell) :: (G ++ [.lst ((t.kids.map fun o => (o, d + 1)).map cell)])) := by
  have e1 : ((st ++ [(t, d)]).map cell)[((st ++ [(t, d)]).map cell).length - 1]? = some (cell (t, d)) := by simp
  have e2 : ((st ++ [(t, d)]).map cell).dropLast = st.map cell := by simp
  have kl : t.kids.length ≤ 2 := by cases t <;> simp [kids]
  simp only [bIsTest]
  by_cases hd : 10 < d
  · have hd' : (10 : Int) < (d : Int) := by omega
    simp [mPop, tyM, e1, e2, f_inner k t _ h, hd, hd']
  · have hd' : ¬ (10 : Int) < (d : Int) := by omega
    have hc : ∀ M' : Hh, compF (fun i _ => some (t.kids.map toD)[i]?) (.one 5) vYes (vTup (vCons (vVar 5) (vCons (vOp opAdd (vVar 3) (vC (.int 1))) (vNil)))) M'.length (wipeE [a, some (.loc M.length), some t.toD, some (.int d), some (.tup (t.kids.map toD)), none] [5]) NN 0 (M' ++ [.lst []]) = .ok (.loc M'.length) (M' ++ [.lst ((t.kids.map fun o => (o, d + 1)).map cell)]) := by
      intro M'
      rw [comp_map (items := t.kids.map toD) (fun z => .tup [z, .int (d + 1 : Nat)]) (fun i M' => rfl) (by simp; omega)]
      · simp [cell]
      · intro z hz
        exact ⟨_, rfl, fun M' => by simp [wipeE]⟩
    have hh := hc (M ++ .lst (st.map cell) :: G)
    simp at hh
    have g1 : ∀ X : MO, (MO.lst (st.map cell) :: (G ++ [X]))[G.length + 1]? = some X := fun X => by simp
    simp [mPop, tyM, e1, e2, f_inner k t _ h, hd, hd', hh, opIadd, g1]
    rw [if_pos (by omega)]
theorem loop_is_test (k : Nat) (M : Hh) : ∀ (m n : Nat) (st : List (Te × Nat)) (G : Hh) (a x y z : Option D), sizes st = m → m < n → m ≤ 1000000 → (∀ p ∈ st, p.1.ok = true) →
    ∃ G' e, loopW (vTru (vVar 1)) (bIsTest (k + 2)) n [a, some (.loc M.length), x, y, z, none] (M ++ .lst (st.map cell) :: G) = if fits st then .nx e (M ++ G') else .ret (.bl false) (M ++ G') := by
  intro m
  induction m using Nat.strongRecOn with
  | ind m ih =>
    intro n st G a x y z hm hn hz hok
    obtain ⟨n, rfl⟩ : ∃ j, n = j + 1 := ⟨n - 1, by omega⟩
    rcases List.eq_nil_or_concat st with rfl | ⟨st, p, rfl⟩
    · refine ⟨.lst [] :: G, [a, some (.loc M.length), x, y, z, none], ?_⟩
      simp [loopW, truD, fits]
    · obtain ⟨t, d⟩ := p
      rw [List.concat_eq_append] at *
      have hok1 : t.ok = true := hok (t, d) (by simp)
      have hsz : sizes (st ++ [(t, d)]) = sizes st + t.size := by simp [sizes]
      have hpos := size_pos t
      have hlen : ∀ s : List (Te × Nat), s.length ≤ sizes s := by
        intro s
        induction s with
        | nil => simp [sizes]
        | cons q s ihs =>
          have := size_pos q.1
          simp only [sizes, List.map_cons, List.sum_cons, List.length_cons] at ihs ⊢
          omega
      have hl := hlen st
      have hb := body_is_test k M G st t d a x y z hok1 (by omega)
      have htr : truD (.loc M.length) (M ++ .lst ((st ++ [(t, d)]).map cell) :: G) = some true := by simp [truD]
      have fit : fits (st ++ [(t, d)]) = (fits st && decide (d + t.depth ≤ 11)) := by simp [fits]
      simp only [loopW, ev_tru, ev_var, List.getElem?_cons_succ, List.getElem?_cons_zero, Res.bind_ok, htr, Res.st_ok, hb]
      by_cases hd : 10 < d
      · have hp : 1 ≤ t.depth := by cases t <;> simp [Te.depth]
        refine ⟨.lst (st.map cell) :: G, [], ?_⟩
        rw [if_pos hd, fit]
        have : ¬ d + t.depth ≤ 11 := by omega
        simp [this]
      · rw [if_neg hd]
        have hs2 : sizes (st ++ t.kids.map fun o => (o, d + 1)) + 1 = m := by
          have := kids_size t (d + 1)
          rw [← hm, hsz]
          simp only [sizes, List.map_append, List.sum_append] at this ⊢
          omega
        obtain ⟨G', e, h⟩ := ih (m - 1) (by omega) n (st ++ t.kids.map fun o => (o, d + 1)) (G ++ [.lst ((t.kids.map fun o => (o, d + 1)).map cell)]) a (some t.toD) (some (.int d)) (some (.tup (t.kids.map toD))) (by omega) (by omega) (by omega) (fun p hp => by
          rcases List.mem_append.mp hp with hp | hp
          · exact hok p (List.mem_append_left _ hp)
          · obtain ⟨o, ho, rfl⟩ := List.mem_map.mp hp
            exact kids_ok t hok1 o ho)
        refine ⟨G', e, ?_⟩
        have fit2 : fits (st ++ t.kids.map fun o => (o, d + 1)) = fits (st ++ [(t, d)]) := by
          rw [fit, ← kids_fit t d (by omega)]
          simp [fits]
        rw [fit2] at h
        exact h
def goodT (t : Te) : Bool := t.ok && decide (t.depth ≤ 10)
/-- is_test -/
theorem f_is_test (k : Nat) (t : Te) (M : Hh) (h : t.ok = true) (hz : t.size ≤ 1000000) : callF (k + 3) 4 [t.toD] M = .ok (.bl (decide (t.depth ≤ 10))) M := by
  show runF 6 (m_is_test (callF (k + 2))) [t.toD] M = _
  refine run_ok ?_ rfl
  obtain ⟨G', e, hl⟩ := loop_is_test k M t.size NN [(t, 1)] [] (some t.toD) none none none (by simp [sizes]) (by unfold NN; omega) hz (by simpa using h)
  refine ⟨G', ?_⟩
  have e0 : m_is_test (callF (k + 2)) = sSeq (sAsg (vLst (vCons (vTup (vCons (vVar 0) (vCons (vC (.int 1)) (vNil)))) (vNil))) (gName 1)) (sSeq (sWhile (vTru (vVar 1)) (bIsTest (k + 2))) (sRet (vC (.bl true)))) := rfl
  have fit : fits [(t, 1)] = decide (t.depth ≤ 10) := by
    rw [Bool.eq_iff_iff, decide_eq_true_iff]
    simp [fits]; omega
  rw [e0, start1]
  simp only [es_seq, es_asg, ev_lst, ev_cons, ev_tup, ev_var, ev_C, ev_nil, es_while, List.replicate, es_name, Res.bind_ok, List.getElem?_cons_zero, List.length_cons, List.length_nil, Res.st_ok, RS.bind_nx, List.set_cons_succ, List.set_cons_zero]
  simp only [List.map_cons, List.map_nil, cell] at hl
  rw [if_pos (by decide)]
  simp only [Res.bind_ok]
  rw [if_pos (by simp)]
  simp only [Res.st_ok, RS.bind_nx, List.set_cons_succ, List.set_cons_zero]
  have hl' : loopW (vTru (vVar 1)) (bIsTest (k + 2)) NN [some t.toD, some (.loc M.length), none, none, none, none] (M ++ [.lst [.tup [t.toD, .int 1]]]) = _ := hl
  rw [es_seq, es_while, hl', fit]
  cases ht : decide (t.depth ≤ 10) <;> simp
/-! ### written -/
def high : Te → Nat
  | .or _ _ => 0
  | .and _ _ => 1
  | .not _ => 2
  | _ => 3
def par (s : List Nat) : List Nat := z_lp ++ s ++ z_rp
def wr : Te → List Nat
  | .yes => z_yes
  | .no => z_no
  | .is n => n
  | .not t => z_bang ++ (if 2 ≤ high t then wr t else par (wr t))
  | .and a b => (if 1 ≤ high a then wr a else par (wr a)) ++ z_samps ++ (if 2 ≤ high b then wr b else par (wr b))
  | .or a b => wr a ++ z_sbars ++ (if 1 ≤ high b then wr b else par (wr b))
def brk (t : Te) (l : Nat) : List Nat := if l ≤ high t then wr t else par (wr t)
theorem wr_not (t : Te) : wr (.not t) = z_bang ++ brk t 2 := rfl
theorem wr_and (a b : Te) : wr (.and a b) = brk a 1 ++ z_samps ++ brk b 2 := rfl
theorem wr_or (a b : Te) : wr (.or a b) = brk a 0 ++ z_sbars ++ brk b 1 := rfl
theorem brk_len (t : Te) (l : Nat) : (brk t l).length ≤ (wr t).length + 2 := by
  unfold brk par
  split
  · omega
  · simp [z_lp, z_rp]
theorem wr_len : ∀ t : Te, t.ok = true → (wr t).length ≤ 8 * t.size
  | .yes, _ => by decide
  | .no, _ => by decide
  | .is n, h => by
    have := isName_len h
    show n.length ≤ 8 * 1
    omega
  | .not t, h => by
    have h1 := wr_len t h
    have h2 := brk_len t 2
    rw [wr_not, List.length_append]
    simp only [Te.size]
    have : z_bang.length = 1 := rfl
    omega
  | .and a b, h => by
    simp only [Te.ok, Bool.and_eq_true] at h
    have h1 := wr_len a h.1
    have h2 := wr_len b h.2
    have h3 := brk_len a 1
    have h4 := brk_len b 2
    rw [wr_and, List.length_append, List.length_append]
    simp only [Te.size]
    have : z_samps.length = 3 := rfl
    omega
  | .or a b, h => by
    simp only [Te.ok, Bool.and_eq_true] at h
    have h1 := wr_len a h.1
    have h2 := wr_len b h.2
    have h3 := brk_len a 0
    have h4 := brk_len b 1
    rw [wr_or, List.length_append, List.length_append]
    simp only [Te.size]
    have : z_sbars.length = 3 := rfl
    omega
def wrD (t : Te) : D := .tup [.str (wr t), .int (high t)]
theorem f_written : ∀ (t : Te) (k : Nat) (M : Hh), t.ok = true → t.size ≤ 1000000 → 2 * t.depth ≤ k → callF k 8 [t.toD] M = .ok (wrD t) M ∧ ∀ l : Nat, callF (k + 1) 9 [t.toD, .int l] M = .ok (.str (brk t l)) M := by
  have step : ∀ (t : Te) (k : Nat), (∀ M, callF k 8 [t.toD] M = .ok (wrD t) M) → t.ok = true → t.size ≤ 1000000 → ∀ (M : Hh) (l : Nat), callF (k + 1) 9 [t.toD, .int l] M = .ok (.str (brk t l)) M := by
    intro t k hw ho hz M l
    have hlen := wr_len t ho
    show runF 4 (m_bracketed (callF k)) [t.toD, .int l] M = _
    refine run_ok ⟨[], ?_⟩ rfl
    have a1 : opAdd (.str z_lp) (.str (wr t)) M = some (.str (z_lp ++ wr t), M) := op_add_str (by have : z_lp.length = 1 := rfl; omega)
    have a2 : opAdd (.str (z_lp ++ wr t)) (.str z_rp) M = some (.str (par (wr t)), M) := op_add_str (by rw [List.length_append]; have : z_lp.length = 1 := rfl; have : z_rp.length = 1 := rfl; omega)
    by_cases h : l ≤ high t
    · have h' : (l : Int) ≤ (high t : Int) := by omega
      simp [m_bracketed, start2, hw, wrD, h', brk, h]
    · have h' : ¬ (l : Int) ≤ (high t : Int) := by omega
      simp [m_bracketed, start2, hw, wrD, h', brk, h, a1, a2]
  intro t
  induction t with
  | yes =>
    intro k M ho hz hk
    obtain ⟨k, rfl⟩ : ∃ j, k = j + 1 := ⟨k - 1, by simp [Te.depth] at hk; omega⟩
    have hw : ∀ M, callF (k + 1) 8 [Te.yes.toD] M = .ok (wrD .yes) M := fun M => by
      show runF 4 (m_written (callF k)) [Te.yes.toD] M = _
      exact run_ok ⟨[], by simp [m_written, start1, Te.toD, wrD, wr, high]⟩ rfl
    exact ⟨hw M, fun l => step _ _ hw ho hz M l⟩
  | no =>
    intro k M ho hz hk
    obtain ⟨k, rfl⟩ : ∃ j, k = j + 1 := ⟨k - 1, by simp [Te.depth] at hk; omega⟩
    have hw : ∀ M, callF (k + 1) 8 [Te.no.toD] M = .ok (wrD .no) M := fun M => by
      show runF 4 (m_written (callF k)) [Te.no.toD] M = _
      exact run_ok ⟨[], by simp [m_written, start1, Te.toD, wrD, wr, high]⟩ rfl
    exact ⟨hw M, fun l => step _ _ hw ho hz M l⟩
  | is n =>
    intro k M ho hz hk
    obtain ⟨k, rfl⟩ : ∃ j, k = j + 1 := ⟨k - 1, by simp [Te.depth] at hk; omega⟩
    have c1 : (z_yes == z_is) = false := by decide
    have c2 : (z_no == z_is) = false := by decide
    have hw : ∀ M, callF (k + 1) 8 [(Te.is n).toD] M = .ok (wrD (.is n)) M := fun M => by
      show runF 4 (m_written (callF k)) [(Te.is n).toD] M = _
      exact run_ok ⟨[], by simp [m_written, start1, Te.toD, wrD, wr, high, c1, c2]⟩ rfl
    exact ⟨hw M, fun l => step _ _ hw ho hz M l⟩
  | not t ih =>
    intro k M ho hz hk
    simp only [Te.depth, Te.size] at hk hz
    obtain ⟨k, rfl⟩ : ∃ j, k = j + 2 := ⟨k - 2, by omega⟩
    have ho' : t.ok = true := ho
    have c1 : (z_yes == z_not) = false := by decide
    have c2 : (z_no == z_not) = false := by decide
    have c3 : (z_not == z_is) = false := by decide
    have hl := wr_len t ho'
    have hb := brk_len t 2
    have hw : ∀ M, callF (k + 2) 8 [(Te.not t).toD] M = .ok (wrD (.not t)) M := fun M => by
      show runF 4 (m_written (callF (k + 1))) [(Te.not t).toD] M = _
      have h9 := (ih k M ho' (by omega) (by omega)).2 2
      have a1 : opAdd (.str z_bang) (.str (brk t 2)) M = some (.str (z_bang ++ brk t 2), M) := op_add_str (by have : z_bang.length = 1 := rfl; omega)
      have h9' : callF (k + 1) 9 [t.toD, .int 2] M = .ok (.str (brk t 2)) M := h9
      exact run_ok ⟨[], by simp [m_written, start1, Te.toD, wrD, wr_not, high, c1, c2, c3, h9', a1]⟩ rfl
    exact ⟨hw M, fun l => step _ _ hw ho (by simp only [Te.size]; omega) M l⟩
  | and a b iha ihb =>
    intro k M ho hz hk
    have ho2 := ho
    simp only [Te.ok, Bool.and_eq_true] at ho2
    simp only [Te.depth, Te.size] at hk hz
    obtain ⟨k, rfl⟩ : ∃ j, k = j + 2 := ⟨k - 2, by omega⟩
    have c1 : (z_yes == z_and) = false := by decide
    have c2 : (z_no == z_and) = false := by decide
    have c3 : (z_and == z_is) = false := by decide
    have c4 : (z_and == z_not) = false := by decide
    have c5 : (z_and == z_or) = false := by decide
    have c6 : k_HEIGHTS.lookup z_and = some (.int 1) := rfl
    have hla := wr_len a ho2.1
    have hlb := wr_len b ho2.2
    have hba := brk_len a 1
    have hbb := brk_len b 2
    have hw : ∀ M, callF (k + 2) 8 [(Te.and a b).toD] M = .ok (wrD (.and a b)) M := fun M => by
      show runF 4 (m_written (callF (k + 1))) [(Te.and a b).toD] M = _
      have ha : callF (k + 1) 9 [a.toD, .int 1] M = .ok (.str (brk a 1)) M := (iha k M ho2.1 (by omega) (by omega)).2 1
      have hb : callF (k + 1) 9 [b.toD, .int 2] M = .ok (.str (brk b 2)) M := (ihb k M ho2.2 (by omega) (by omega)).2 2
      have a1 : opAdd (.str (brk a 1)) (.str z_samps) M = some (.str (brk a 1 ++ z_samps), M) := op_add_str (by have : z_samps.length = 3 := rfl; omega)
      have a2 : opAdd (.str (brk a 1 ++ z_samps)) (.str (brk b 2)) M = some (.str (brk a 1 ++ z_samps ++ brk b 2), M) := op_add_str (by rw [List.length_append]; have : z_samps.length = 3 := rfl; omega)
      exact run_ok ⟨[], by simp [m_written, start1, Te.toD, wrD, wr_and, high, c1, c2, c3, c4, c5, c6, ha, hb, a1, a2]⟩ rfl
    exact ⟨hw M, fun l => step _ _ hw ho (by simp only [Te.size]; omega) M l⟩
  | or a b iha ihb =>
    intro k M ho hz hk
    have ho2 := ho
    simp only [Te.ok, Bool.and_eq_true] at ho2
    simp only [Te.depth, Te.size] at hk hz
    obtain ⟨k, rfl⟩ : ∃ j, k = j + 2 := ⟨k - 2, by omega⟩
    have c1 : (z_yes == z_or) = false := by decide
    have c2 : (z_no == z_or) = false := by decide
    have c3 : (z_or == z_is) = false := by decide
    have c4 : (z_or == z_not) = false := by decide
    have c6 : k_HEIGHTS.lookup z_or = some (.int 0) := rfl
    have hla := wr_len a ho2.1
    have hlb := wr_len b ho2.2
    have hba := brk_len a 0
    have hbb := brk_len b 1
    have hw : ∀ M, callF (k + 2) 8 [(Te.or a b).toD] M = .ok (wrD (.or a b)) M := fun M => by
      show runF 4 (m_written (callF (k + 1))) [(Te.or a b).toD] M = _
      have ha : callF (k + 1) 9 [a.toD, .int 0] M = .ok (.str (brk a 0)) M := (iha k M ho2.1 (by omega) (by omega)).2 0
      have hb : callF (k + 1) 9 [b.toD, .int 1] M = .ok (.str (brk b 1)) M := (ihb k M ho2.2 (by omega) (by omega)).2 1
      have a1 : opAdd (.str (brk a 0)) (.str z_sbars) M = some (.str (brk a 0 ++ z_sbars), M) := op_add_str (by have : z_sbars.length = 3 := rfl; omega)
      have a2 : opAdd (.str (brk a 0 ++ z_sbars)) (.str (brk b 1)) M = some (.str (brk a 0 ++ z_sbars ++ brk b 1), M) := op_add_str (by rw [List.length_append]; have : z_sbars.length = 3 := rfl; omega)
      exact run_ok ⟨[], by simp [m_written, start1, Te.toD, wrD, wr_or, high, c1, c2, c3, c4, c6, ha, hb, a1, a2]⟩ rfl
    exact ⟨hw M, fun l => step _ _ hw ho (by simp only [Te.size]; omega) M l⟩
theorem f_check_test (k : Nat) (t : Te) (M : Hh) (h : t.ok = true) (hz : t.size ≤ 1000000) (hd : t.depth ≤ 10) : callF (k + 4) 6 [t.toD] M = .ok .non M := by
  show runF 1 (m_check_test (callF (k + 3))) [t.toD] M = _
  exact run_ok ⟨[], by simp [m_check_test, start1, f_is_test k t M h hz, hd]⟩ rfl
theorem f_format_test (k : Nat) (t : Te) (M : Hh) (h : t.ok = true) (hz : t.size ≤ 1000000) (hd : t.depth ≤ 10) (hk : 20 ≤ k) : callF (k + 5) 7 [t.toD] M = .ok (.str (wr t)) M := by
  show runF 1 (m_format_test (callF (k + 4))) [t.toD] M = _
  have h1 := f_check_test k t M h hz hd
  have h2 := (f_written t (k + 4) M h hz (by omega)).1
  exact run_ok ⟨[], by simp [m_format_test, start1, h1, h2, wrD]⟩ rfl
end Gm.K28

set_option Elab.async false
set_option linter.all false
set_option maxRecDepth 100000
set_option maxHeartbeats 1000000
set_option autoImplicit false
namespace Gm.K28
open Gm
/-! ### the rows of signs and the object that walks them -/
structure Tk where
  w : Nat
  s : List Nat
  p : Nat
  deriving DecidableEq
def kindOf (w : Nat) : List Nat := if w = 0 then z_word else if w = 1 then z_mark else z_strange
def Tk.toD (t : Tk) : D := .tup [.str (kindOf t.w), .str t.s, .int t.p]
theorem pure_tks : ∀ R : List Tk, pureDs (R.map Tk.toD) = true
  | [] => rfl
  | t :: R => by simp [pureDs, Tk.toD, pureD, pure_tks R]
def sgO (R : List Tk) (n a : Nat) : MO := .ins 41 [(9, .tup (R.map Tk.toD)), (8, .int n), (7, .int a)]
structure Sg where
  M : Hh
  l : Nat
  n : Nat
  R : List Tk
  hl : l < M.length
def Sg.h (S : Sg) (a : Nat) : Hh := S.M.set S.l (sgO S.R S.n a)
section
variable (S : Sg) (a b : Nat)
theorem sg_get : (S.h a)[S.l]? = some (.ins 41 [(9, .tup (S.R.map Tk.toD)), (8, .int S.n), (7, .int a)]) := by
  unfold Sg.h; simp [S.hl, sgO]
theorem sg_len : (S.h a).length = S.M.length := by unfold Sg.h; simp
theorem sg_set : (S.h a).set S.l (sgO S.R S.n b) = S.h b := by unfold Sg.h; simp
theorem sg9 : getFld [41] 9 (.loc S.l) (S.h a) = some (.tup (S.R.map Tk.toD)) := by simp [getFld, sg_get, List.lookup]
theorem sg8 : getFld [41] 8 (.loc S.l) (S.h a) = some (.int S.n) := by simp [getFld, sg_get, List.lookup]
theorem sg7 : getFld [41] 7 (.loc S.l) (S.h a) = some (.int a) := by simp [getFld, sg_get, List.lookup]
theorem sg_cls : clsOf (.loc S.l) (S.h a) = 41 := by simp [clsOf, sg_get]
theorem sg_put : setFld [41] 7 (.loc S.l) (.int ((a : Int) + 1)) (S.h a) = some (S.h (a + 1)) := by
  simp only [setFld, sg_get]
  rw [if_pos ⟨by simp, by simp⟩]
  rw [← sg_set S a (a + 1)]
  rfl
theorem sg_lt : ltM (S.h a).length (sgO S.R S.n b) = true := by
  simp [sgO, ltM, ltF, ltD, lt_of_pures (pure_tks S.R)]
end
theorem run_sg {S : Sg} {a b n : Nat} {m : SMs} {ds : List D} {d : D} (h : ∃ G, (m (startD n ds) (S.h a)).res = .ok d (S.h b ++ G)) (hp : pureD d = true) : runF n m ds (S.h a) = .ok d (S.h b) := by
  obtain ⟨G, e⟩ := h
  rw [← sg_set S a b] at e ⊢
  exact run_set ⟨G, e⟩ hp (sg_lt S a b)
theorem run_sgx {S : Sg} {a b n : Nat} {m : SMs} {ds : List D} {c : Nat} {fs : List (Nat × D)} (h : ∃ G, (m (startD n ds) (S.h a)).res = .exc c fs (S.h b ++ G)) (hp : (fs.all fun p => pureD p.2) = true) : runF n m ds (S.h a) = .exc c fs (S.h b) := by
  obtain ⟨G, e⟩ := h
  rw [← sg_set S a b] at e ⊢
  exact run_set_exc ⟨G, e⟩ hp (sg_lt S a b)
/-! ### the methods -/
def placeP (R : List Tk) (n a : Nat) : Nat := match R[a]? with | some t => t.p | none => n
def seesP (R : List Tk) (w : List Nat) (a : Nat) : Bool := match R[a]? with | some t => t.s == w | none => false
def wordP (R : List Tk) (a : Nat) : Option (List Nat) := match R[a]? with | some t => if t.w = 0 then some t.s else none | none => none
theorem none_lt {R : List Tk} {a : Nat} (h : R[a]? = none) : ¬ (a : Int) < (R.length : Int) := by
  have := List.getElem?_eq_none_iff.mp h
  omega
theorem some_lt {R : List Tk} {a : Nat} {t : Tk} (h : R[a]? = some t) : (a : Int) < (R.length : Int) := by
  have : a < R.length := by
    rcases Nat.lt_or_ge a R.length with h' | h'
    · exact h'
    · rw [List.getElem?_eq_none_iff.mpr h'] at h; cases h
  omega
theorem f_place (S : Sg) (k a : Nat) : callF (k + 1) 32 [.loc S.l] (S.h a) = .ok (.int (placeP S.R S.n a)) (S.h a) := by
  show runF 1 (m_Signs_place (callF k)) [.loc S.l] (S.h a) = _
  refine run_sg ⟨[], ?_⟩ rfl
  cases h : S.R[a]? with
  | none => simp [m_Signs_place, start1, sg7, sg8, sg9, placeP, h, none_lt h]
  | some t => simp [m_Signs_place, start1, sg7, sg8, sg9, placeP, h, some_lt h, op_ix_nat, Tk.toD]
theorem f_sees (S : Sg) (k a : Nat) (w : List Nat) : callF (k + 1) 33 [.loc S.l, .str w] (S.h a) = .ok (.bl (seesP S.R w a)) (S.h a) := by
  show runF 2 (m_Signs_sees (callF k)) [.loc S.l, .str w] (S.h a) = _
  refine run_sg ⟨[], ?_⟩ rfl
  cases h : S.R[a]? with
  | none => simp [m_Signs_sees, start2, sg7, sg8, sg9, seesP, h, none_lt h]
  | some t => simp [m_Signs_sees, start2, sg7, sg8, sg9, seesP, h, some_lt h, op_ix_nat, Tk.toD]
def optS : Option (List Nat) → D
  | some s => .str s
  | none => .non
theorem kind_word (w : Nat) : (kindOf w == z_word) = decide (w = 0) := by
  unfold kindOf
  split
  · next h => subst h; decide
  · next h =>
    split
    · next h' => subst h'; decide
    · simp only [h, decide_false]; decide
theorem f_word (S : Sg) (k a : Nat) : callF (k + 1) 34 [.loc S.l] (S.h a) = .ok (optS (wordP S.R a)) (S.h a) := by
  show runF 1 (m_Signs_word (callF k)) [.loc S.l] (S.h a) = _
  refine run_sg ⟨[], ?_⟩ (by cases wordP S.R a <;> rfl)
  cases h : S.R[a]? with
  | none => simp [m_Signs_word, start1, sg7, sg8, sg9, wordP, h, none_lt h, optS]
  | some t =>
    by_cases hw : t.w = 0
    · simp [m_Signs_word, start1, sg7, sg8, sg9, wordP, h, some_lt h, op_ix_nat, Tk.toD, kind_word, hw, optS]
    · simp [m_Signs_word, start1, sg7, sg8, sg9, wordP, h, some_lt h, op_ix_nat, Tk.toD, kind_word, hw, optS]
theorem f_take (S : Sg) (k a : Nat) (w : List Nat) : callF (k + 2) 35 [.loc S.l, .str w] (S.h a) = if seesP S.R w a then .ok .non (S.h (a + 1)) else .exc 40 [(1, .int (placeP S.R S.n a))] (S.h a) := by
  show runF 2 (m_Signs_take (callF (k + 1))) [.loc S.l, .str w] (S.h a) = _
  cases h : seesP S.R w a with
  | true => exact run_sg ⟨[], by simp [m_Signs_take, start2, sg_get, List.lookup, f_sees, h, sg7, sg_cls, sg_put]⟩ rfl
  | false => exact run_sgx ⟨[], by simp [m_Signs_take, start2, sg_get, List.lookup, f_sees, f_place, h, errD]⟩ rfl
theorem f_took (S : Sg) (k a : Nat) (w : List Nat) : callF (k + 2) 36 [.loc S.l, .str w] (S.h a) = if seesP S.R w a then .ok (.bl true) (S.h (a + 1)) else .ok (.bl false) (S.h a) := by
  show runF 2 (m_Signs_took (callF (k + 1))) [.loc S.l, .str w] (S.h a) = _
  cases h : seesP S.R w a with
  | true => exact run_sg ⟨[], by simp [m_Signs_took, start2, sg_get, List.lookup, f_sees, h, sg7, sg_cls, sg_put]⟩ rfl
  | false => exact run_sg ⟨[], by simp [m_Signs_took, start2, sg_get, List.lookup, f_sees, h]⟩ rfl
theorem f_done (S : Sg) (k a : Nat) : callF (k + 2) 37 [.loc S.l] (S.h a) = if a < S.R.length then .exc 40 [(1, .int (placeP S.R S.n a))] (S.h a) else .ok .non (S.h a) := by
  show runF 1 (m_Signs_done (callF (k + 1))) [.loc S.l] (S.h a) = _
  by_cases h : a < S.R.length
  · have h' : (a : Int) < (S.R.length : Int) := by omega
    rw [if_pos h]
    exact run_sgx ⟨[], by simp [m_Signs_done, start1, sg_get, List.lookup, f_place, sg7, sg9, h, h', errD]⟩ rfl
  · have h' : ¬ (a : Int) < (S.R.length : Int) := by omega
    rw [if_neg h]
    exact run_sg ⟨[], by simp [m_Signs_done, start1, sg_get, List.lookup, sg7, sg9, h, h']⟩ rfl
/-! ### the reader -/
inductive PR where
  | ok (t : Te) (a : Nat)
  | err (p a : Nat)
  deriving DecidableEq
section
variable (R : List Tk) (n : Nat)
def atomP (a : Nat) : PR := match wordP R a with
  | some w => if w == z_yes then .ok .yes (a + 1) else if w == z_no then .ok .no (a + 1) else if isName w then .ok (.is w) (a + 1) else .err (placeP R n a) a
  | none => .err (placeP R n a) a
def chainP (w : List Nat) (mk : Te → Te → Te) (sub : Nat → PR) : Nat → Te → Nat → PR
  | 0, t, a => .ok t a
  | f + 1, t, a => if seesP R w a then (match sub (a + 1) with
    | .ok t2 a2 => chainP w mk sub f (mk t t2) a2
    | .err p a2 => .err p a2) else .ok t a
def andP (sub : Nat → PR) (a : Nat) : PR := match sub a with
  | .ok t a1 => chainP R z_amp .and sub R.length t a1
  | .err p a1 => .err p a1
def orP (sub : Nat → PR) (a : Nat) : PR := match andP R sub a with
  | .ok t a1 => chainP R z_bar .or (andP R sub) R.length t a1
  | .err p a1 => .err p a1
def leastP : Nat → Nat → PR
  | 0, a => if seesP R z_bang a || seesP R z_lp a then .err (placeP R n a) a else atomP R n a
  | e + 1, a => if seesP R z_bang a then (match leastP e (a + 1) with
      | .ok t a1 => .ok (.not t) a1
      | .err p a1 => .err p a1)
    else if seesP R z_lp a then (match orP R (leastP e) (a + 1) with
      | .ok t a1 => if seesP R z_rp a1 then .ok t (a1 + 1) else .err (placeP R n a1) a1
      | .err p a1 => .err p a1)
    else atomP R n a
/-- what is read is a test with good names, no bigger than the signs taken -/
def Adv (sub : Nat → PR) : Prop := ∀ a t a', sub a = .ok t a' → a + t.size ≤ a' ∧ t.ok = true
theorem adv_atom : Adv (atomP R n) := by
  intro a t a' h
  unfold atomP at h
  split at h
  · split at h
    · cases h; exact ⟨by simp [Te.size], rfl⟩
    · split at h
      · cases h; exact ⟨by simp [Te.size], rfl⟩
      · split at h
        · next hn => cases h; exact ⟨by simp [Te.size], hn⟩
        · cases h
  · cases h
theorem adv_chain {w : List Nat} {mk : Te → Te → Te} {sub : Nat → PR} (hs : Adv sub) (hm : ∀ t u, (mk t u).size = t.size + u.size + 1 ∧ (t.ok = true → u.ok = true → (mk t u).ok = true)) :
    ∀ (f : Nat) (t : Te) (a : Nat) (t' : Te) (a' : Nat), t.ok = true → chainP R w mk sub f t a = .ok t' a' → a + t'.size ≤ a' + t.size ∧ t'.ok = true := by
  intro f
  induction f with
  | zero =>
    intro t a t' a' ht h
    cases h; exact ⟨Nat.le_refl _, ht⟩
  | succ f ih =>
    intro t a t' a' ht h
    unfold chainP at h
    split at h
    · split at h
      · next t2 a2 e =>
        have h2 := hs _ _ _ e
        have h3 := ih _ _ _ _ ((hm t t2).2 ht h2.2) h
        have h4 := (hm t t2).1
        exact ⟨by omega, h3.2⟩
      · cases h
    · cases h; exact ⟨Nat.le_refl _, ht⟩
theorem hm_and : ∀ t u : Te, (Te.and t u).size = t.size + u.size + 1 ∧ (t.ok = true → u.ok = true → (Te.and t u).ok = true) := fun t u => ⟨rfl, fun h1 h2 => by simp [Te.ok, h1, h2]⟩
theorem hm_or : ∀ t u : Te, (Te.or t u).size = t.size + u.size + 1 ∧ (t.ok = true → u.ok = true → (Te.or t u).ok = true) := fun t u => ⟨rfl, fun h1 h2 => by simp [Te.ok, h1, h2]⟩
theorem adv_and {sub : Nat → PR} (hs : Adv sub) : Adv (andP R sub) := by
  intro a t a' h
  unfold andP at h
  split at h
  · next t1 a1 e =>
    have h1 := hs _ _ _ e
    have h2 := adv_chain R hs hm_and _ _ _ _ _ h1.2 h
    exact ⟨by omega, h2.2⟩
  · cases h
theorem adv_or {sub : Nat → PR} (hs : Adv sub) : Adv (orP R sub) := by
  intro a t a' h
  unfold orP at h
  split at h
  · next t1 a1 e =>
    have h1 := adv_and R hs _ _ _ e
    have h2 := adv_chain R (adv_and R hs) hm_or _ _ _ _ _ h1.2 h
    exact ⟨by omega, h2.2⟩
  · cases h
theorem adv_least : ∀ e, Adv (leastP R n e)
  | 0 => by
    intro a t a' h
    unfold leastP at h
    split at h
    · cases h
    · exact adv_atom R n _ _ _ h
  | e + 1 => by
    intro a t a' h
    unfold leastP at h
    split at h
    · split at h
      · next t1 a1 e1 =>
        have h1 := adv_least e _ _ _ e1
        cases h
        exact ⟨by simp only [Te.size]; omega, h1.2⟩
      · cases h
    · split at h
      · split at h
        · next t1 a1 e1 =>
          have h1 := adv_or R (adv_least e) _ _ _ e1
          split at h
          · cases h; exact ⟨by omega, h1.2⟩
          · cases h
        · cases h
      · exact adv_atom R n _ _ _ h
end
def PR.res (S : Sg) : PR → Res D
  | .ok t a => .ok t.toD (S.h a)
  | .err p a => .exc 40 [(1, .int p)] (S.h a)
noncomputable def bChain (F T : Fn) (w nm : List Nat) : SMs := sAsg (vTup (vCons (vC (.str nm)) (vCons (vVar 2) (vCons (vCallN 2 F (vCons (vVar 0) (vCons (vVar 1) (vNil)))) (vNil))))) (gName 2)
noncomputable def tChain (T : Fn) (w : List Nat) : SMo Bool := vTru (vMeth 41 3 2 T (vVar 0) (vCons (vC (.str w)) (vNil)))
theorem sees_lt {R : List Tk} {w : List Nat} {a : Nat} (h : seesP R w a = true) : a < R.length := by
  unfold seesP at h
  split at h
  · next t e =>
    rcases Nat.lt_or_ge a R.length with h' | h'
    · exact h'
    · rw [List.getElem?_eq_none_iff.mpr h'] at e; cases e
  · cases h
theorem chain_loop (S : Sg) (k : Nat) (F : Fn) (w nm : List Nat) (mk : Te → Te → Te) (sub : Nat → PR) (dp : D) (hF : ∀ a, F [.loc S.l, dp] (S.h a) = (sub a).res S) (hs : Adv sub) (hmk : ∀ t u : Te, (mk t u).toD = .tup [.str nm, t.toD, u.toD]) :
    ∀ (f N : Nat) (t : Te) (a : Nat), S.R.length ≤ a + f → f < N → ∃ env, loopW (tChain (callF (k + 2) 36) w) (bChain F (callF (k + 2) 36) w nm) N [some (.loc S.l), some dp, some t.toD] (S.h a) =
      match chainP S.R w mk sub f t a with
      | .ok t' a' => .nx [some (.loc S.l), some dp, some t'.toD] (S.h a')
      | .err p a' => .exc 40 [(1, .int p)] env (S.h a') := by
  intro f
  induction f with
  | zero =>
    intro N t a ha hN
    obtain ⟨N, rfl⟩ : ∃ j, N = j + 1 := ⟨N - 1, by omega⟩
    have hn : seesP S.R w a = false := by
      cases h : seesP S.R w a with
      | false => rfl
      | true => have := sees_lt h; omega
    exact ⟨[], by simp [loopW, tChain, sg_get, List.lookup, f_took, hn, chainP]⟩
  | succ f ih =>
    intro N t a ha hN
    obtain ⟨N, rfl⟩ : ∃ j, N = j + 1 := ⟨N - 1, by omega⟩
    cases hn : seesP S.R w a with
    | false => exact ⟨[], by simp [loopW, tChain, sg_get, List.lookup, f_took, hn, chainP]⟩
    | true =>
      cases hsb : sub (a + 1) with
      | err p a2 =>
        refine ⟨[some (.loc S.l), some dp, some t.toD], ?_⟩
        simp [loopW, tChain, bChain, sg_get, List.lookup, f_took, hn, chainP, hF, hsb, PR.res]
      | ok t2 a2 =>
        have h2 := hs _ _ _ hsb
        obtain ⟨env, h⟩ := ih N (mk t t2) a2 (by omega) (by omega)
        refine ⟨env, ?_⟩
        have e1 : chainP S.R w mk sub (f + 1) t a = chainP S.R w mk sub f (mk t t2) a2 := by simp [chainP, hn, hsb]
        rw [e1, ← h, hmk]
        simp [loopW, tChain, bChain, sg_get, List.lookup, f_took, hn, hF, hsb, PR.res]
theorem pr_run {S : Sg} {a n : Nat} {m : SMs} {ds : List D} {r : PR} (h : (m (startD n ds) (S.h a)).res = r.res S) : runF n m ds (S.h a) = r.res S := by
  cases r with
  | ok t b => exact run_sg ⟨[], by rw [h, List.append_nil]; rfl⟩ (Te.pure_toD t)
  | err p b => exact run_sgx ⟨[], by rw [h, List.append_nil]; rfl⟩ rfl
theorem f_read_and (S : Sg) (k : Nat) (sub : Nat → PR) (dp : D) (hF : ∀ a, callF (k + 2) 13 [.loc S.l, dp] (S.h a) = (sub a).res S) (hs : Adv sub) (hR : S.R.length ≤ 1000000) (a : Nat) : callF (k + 3) 12 [.loc S.l, dp] (S.h a) = (andP S.R sub a).res S := by
  show runF 3 (m_read_and (callF (k + 2))) [.loc S.l, dp] (S.h a) = _
  refine pr_run ?_
  have e0 : m_read_and (callF (k + 2)) = sSeq (sAsg (vCallN 2 (callF (k + 2) 13) (vCons (vVar 0) (vCons (vVar 1) (vNil)))) (gName 2)) (sSeq (sWhile (tChain (callF (k + 2) 36) z_amp) (bChain (callF (k + 2) 13) (callF (k + 2) 36) z_amp z_and)) (sRet (vVar 2))) := rfl
  rw [e0, start2]
  unfold andP
  cases h1 : sub a with
  | err p a1 => simp [hF, h1, PR.res]
  | ok t a1 =>
    obtain ⟨env, h⟩ := chain_loop S k (callF (k + 2) 13) z_amp z_and .and sub dp hF hs (fun _ _ => rfl) S.R.length NN t a1 (by omega) (by unfold NN; omega)
    cases h2 : chainP S.R z_amp .and sub S.R.length t a1 with
    | ok t' a' => rw [h2] at h; simp [hF, h1, PR.res, h, h2]
    | err p a' => rw [h2] at h; simp [hF, h1, PR.res, h, h2]
theorem f_read_or (S : Sg) (k : Nat) (sub : Nat → PR) (dp : D) (hF : ∀ a, callF (k + 2) 12 [.loc S.l, dp] (S.h a) = (andP S.R sub a).res S) (hs : Adv sub) (hR : S.R.length ≤ 1000000) (a : Nat) : callF (k + 3) 11 [.loc S.l, dp] (S.h a) = (orP S.R sub a).res S := by
  show runF 3 (m_read_or (callF (k + 2))) [.loc S.l, dp] (S.h a) = _
  refine pr_run ?_
  have e0 : m_read_or (callF (k + 2)) = sSeq (sAsg (vCallN 2 (callF (k + 2) 12) (vCons (vVar 0) (vCons (vVar 1) (vNil)))) (gName 2)) (sSeq (sWhile (tChain (callF (k + 2) 36) z_bar) (bChain (callF (k + 2) 12) (callF (k + 2) 36) z_bar z_or)) (sRet (vVar 2))) := rfl
  rw [e0, start2]
  unfold orP
  cases h1 : andP S.R sub a with
  | err p a1 => simp [hF, h1, PR.res]
  | ok t a1 =>
    obtain ⟨env, h⟩ := chain_loop S k (callF (k + 2) 12) z_bar z_or .or (andP S.R sub) dp hF (adv_and S.R hs) (fun _ _ => rfl) S.R.length NN t a1 (by omega) (by unfold NN; omega)
    cases h2 : chainP S.R z_bar .or (andP S.R sub) S.R.length t a1 with
    | ok t' a' => rw [h2] at h; simp [hF, h1, PR.res, h, h2]
    | err p a' => rw [h2] at h; simp [hF, h1, PR.res, h, h2]
theorem yn_non : ∀ M : Hh, opIn .non (.tup [.str z_yes, .str z_no]) M = some (.bl false, M) := fun M => rfl
/-- read_least and read_or by the depth that is left -/
theorem f_least (S : Sg) (hR : S.R.length ≤ 1000000) (hw : ∀ a w, wordP S.R a = some w → w.length ≤ 16777216) : ∀ (e k : Nat) (dp : Int), e ≤ 10 → dp = 11 - (e : Int) → ∀ a, callF (k + 3 * e + 3) 13 [.loc S.l, .int dp] (S.h a) = (leastP S.R S.n e a).res S := by
  have atom : ∀ (k : Nat) (dp : Int) (a : Nat), seesP S.R z_bang a = false → seesP S.R z_lp a = false → (m_read_least (callF (k + 2)) (startD 4 [.loc S.l, .int dp]) (S.h a)).res = (atomP S.R S.n a).res S := by
    intro k dp a n1 n2
    by_cases hq : (10 : Int) < dp
    all_goals
      cases hwd : wordP S.R a with
      | none =>
        simp [m_read_least, start2, hq, sg_get, List.lookup, f_sees, f_took, f_word, f_place, n1, n2, hwd, optS, yn_non, f_is_name_non, errD, atomP, PR.res]
      | some w =>
        have hs : seesP S.R w a = true := by
          unfold wordP at hwd; unfold seesP
          cases hg : S.R[a]? with
          | none => rw [hg] at hwd; cases hwd
          | some t =>
            rw [hg] at hwd
            simp only at hwd ⊢
            split at hwd
            · cases hwd; simp
            · cases hwd
        by_cases w1 : w = z_yes
        · subst w1
          have c1 : (z_yes == z_no) = false := by decide
          simp [m_read_least, start2, hq, sg_get, List.lookup, f_sees, f_took, f_word, f_place, n1, n2, hwd, optS, f_take, hs, atomP, PR.res, Te.toD]
        · by_cases w2 : w = z_no
          · subst w2
            have c1 : (z_no == z_yes) = false := by decide
            simp [m_read_least, start2, hq, sg_get, List.lookup, f_sees, f_took, f_word, f_place, n1, n2, hwd, optS, f_take, hs, atomP, PR.res, Te.toD, c1]
          · have c1 : (z_yes == w) = false := by simpa using fun h => w1 h.symm
            have c2 : (z_no == w) = false := by simpa using fun h => w2 h.symm
            have c3 : (w == z_yes) = false := by simpa using w1
            have c4 : (w == z_no) = false := by simpa using w2
            cases hn : isName w with
            | true => simp [m_read_least, start2, hq, sg_get, List.lookup, f_sees, f_took, f_word, f_place, n1, n2, hwd, optS, f_take, hs, atomP, PR.res, Te.toD, c1, c2, c3, c4, f_is_name _ _ _ (hw _ _ hwd), hn]
            | false => simp [m_read_least, start2, hq, sg_get, List.lookup, f_sees, f_took, f_word, f_place, n1, n2, hwd, optS, f_take, hs, atomP, PR.res, Te.toD, c1, c2, c3, c4, f_is_name _ _ _ (hw _ _ hwd), hn, errD]
  intro e
  induction e with
  | zero =>
    intro k dp he hd a
    subst hd
    show runF 4 (m_read_least (callF (k + 2))) [.loc S.l, .int 11] (S.h a) = _
    refine pr_run ?_
    unfold leastP
    cases n1 : seesP S.R z_bang a with
    | true => simp [m_read_least, start2, sg_get, List.lookup, f_sees, f_place, n1, PR.res, errD]
    | false =>
      cases n2 : seesP S.R z_lp a with
      | true => simp [m_read_least, start2, sg_get, List.lookup, f_sees, f_place, n1, n2, PR.res, errD]
      | false => rw [atom k 11 a n1 n2]; simp
  | succ e ih =>
    intro k dp he hd a
    have hd2 : ¬ (10 : Int) < dp := by omega
    have hF : ∀ j a, callF (j + 3 * e + 3) 13 [.loc S.l, .int (dp + 1)] (S.h a) = (leastP S.R S.n e a).res S := fun j a => ih j (dp + 1) (by omega) (by omega) a
    show runF 4 (m_read_least (callF (k + 3 * e + 5))) [.loc S.l, .int dp] (S.h a) = _
    have k12 : ∀ a, callF (k + 3 * e + 4) 12 [.loc S.l, .int (dp + 1)] (S.h a) = (andP S.R (leastP S.R S.n e) a).res S := f_read_and S (k + 3 * e + 1) _ _ (hF k) (adv_least _ _ e) hR
    have k11 : ∀ a, callF (k + 3 * e + 5) 11 [.loc S.l, .int (dp + 1)] (S.h a) = (orP S.R (leastP S.R S.n e) a).res S := f_read_or S (k + 3 * e + 2) _ _ k12 (adv_least _ _ e) hR
    have hF2 : ∀ a, callF (k + 3 * e + 5) 13 [.loc S.l, .int (dp + 1)] (S.h a) = (leastP S.R S.n e a).res S := fun a => by
      have := hF (k + 2) a
      rw [show k + 2 + 3 * e + 3 = k + 3 * e + 5 by omega] at this
      exact this
    refine pr_run ?_
    unfold leastP
    have tk : ∀ (a : Nat) (w : List Nat), callF (k + 3 * e + 5) 36 [.loc S.l, .str w] (S.h a) = if seesP S.R w a then .ok (.bl true) (S.h (a + 1)) else .ok (.bl false) (S.h a) := fun a w => f_took S (k + 3 * e + 3) a w
    have tkk : ∀ (a : Nat) (w : List Nat), callF (k + 3 * e + 5) 35 [.loc S.l, .str w] (S.h a) = if seesP S.R w a then .ok .non (S.h (a + 1)) else .exc 40 [(1, .int (placeP S.R S.n a))] (S.h a) := fun a w => f_take S (k + 3 * e + 3) a w
    cases n1 : seesP S.R z_bang a with
    | true =>
      cases h1 : leastP S.R S.n e (a + 1) with
      | ok t a1 => simp [m_read_least, start2, hd2, sg_get, List.lookup, tk, n1, hF2, h1, PR.res, Te.toD]
      | err p a1 => simp [m_read_least, start2, hd2, sg_get, List.lookup, tk, n1, hF2, h1, PR.res]
    | false =>
      cases n2 : seesP S.R z_lp a with
      | true =>
        cases h1 : orP S.R (leastP S.R S.n e) (a + 1) with
        | ok t a1 =>
          cases n3 : seesP S.R z_rp a1 with
          | true => simp [m_read_least, start2, hd2, sg_get, List.lookup, tk, tkk, n1, n2, k11, h1, n3, PR.res]
          | false => simp [m_read_least, start2, hd2, sg_get, List.lookup, tk, tkk, n1, n2, k11, h1, n3, PR.res]
        | err p a1 => simp [m_read_least, start2, hd2, sg_get, List.lookup, tk, n1, n2, k11, h1, PR.res]
      | false => rw [atom (k + 3 * e + 3) dp a n1 n2]; simp
end Gm.K28

set_option Elab.async false
set_option linter.all false
set_option maxRecDepth 100000
set_option maxHeartbeats 1000000
set_option autoImplicit false
namespace Gm.K28
open Gm
/-! ### signs_of -/
def isL (c : Nat) : Bool := decide (c ∈ letters)
def marks : List Nat := z______________01
def sgn : Nat → Nat → List Nat → List Tk
  | 0, _, _ => []
  | _ + 1, _, [] => []
  | f + 1, a, c :: r => if c = 32 ∨ c = 10 then sgn f (a + 1) r
    else if isL c then ⟨0, (c :: r).takeWhile isL, a⟩ :: sgn f (a + ((c :: r).takeWhile isL).length) ((c :: r).dropWhile isL)
    else if c ∈ marks then ⟨1, [c], a⟩ :: sgn f (a + 1) r
    else [⟨2, [], a⟩]
def signs (s : List Nat) : List Tk := sgn s.length 0 s
theorem sgn_len : ∀ (f a : Nat) (r : List Nat), (sgn f a r).length ≤ f
  | 0, _, _ => by simp [sgn]
  | f + 1, a, [] => by simp [sgn]
  | f + 1, a, c :: r => by
    unfold sgn
    split
    · have := sgn_len f (a + 1) r; omega
    · split
      · have := sgn_len f (a + ((c :: r).takeWhile isL).length) ((c :: r).dropWhile isL)
        simp only [List.length_cons]; omega
      · split
        · have := sgn_len f (a + 1) r
          simp only [List.length_cons]; omega
        · simp
theorem sgn_word : ∀ (f a : Nat) (r : List Nat) (t : Tk), t ∈ sgn f a r → t.s.length ≤ r.length
  | 0, _, _, t, h => by simp [sgn] at h
  | f + 1, a, [], t, h => by simp [sgn] at h
  | f + 1, a, c :: r, t, h => by
    unfold sgn at h
    split at h
    · have := sgn_word f (a + 1) r t h; simp only [List.length_cons]; omega
    · split at h
      · rcases List.mem_cons.mp h with rfl | h
        · exact List.IsPrefix.length_le (List.takeWhile_prefix _)
        · have h1 := sgn_word f _ _ t h
          have h2 := List.IsSuffix.length_le (List.dropWhile_suffix (l := c :: r) isL)
          omega
      · split at h
        · rcases List.mem_cons.mp h with rfl | h
          · simp
          · have := sgn_word f (a + 1) r t h; simp only [List.length_cons]; omega
        · have := List.mem_singleton.mp h
          subst this; simp
noncomputable def tIn : SMo Bool := (vAnd (vTest (vOp opLt (vVar 3) (vB fLen (vCons (vVar 0) (vNil))))) (vTest (vOp opIn (vOp opIx (vVar 0) (vVar 3)) (vC k_LETTERS))))
theorem in_loop (s : List Nat) (M : Hh) (hs : s.length ≤ 1000000) (f : D) (y : D) : ∀ (m e n : Nat), s.length - e = m → m < n → e ≤ s.length →
    loopW tIn (sAug 3 opIadd (vC (.int 1))) n [some (.str s), some f, some y, some (.int (e : Nat))] M = .nx [some (.str s), some f, some y, some (.int ((e + ((s.drop e).takeWhile isL).length : Nat) : Int))] M := by
  intro m
  induction m with
  | zero =>
    intro e n hm hn he
    obtain ⟨n, rfl⟩ : ∃ j, n = j + 1 := ⟨n - 1, by omega⟩
    have : e = s.length := by omega
    subst this
    simp [loopW, tIn, len_str (show s.length ≤ 16777216 by omega)]
  | succ m ih =>
    intro e n hm hn he
    obtain ⟨n, rfl⟩ : ∃ j, n = j + 1 := ⟨n - 1, by omega⟩
    have hlt : e < s.length := by omega
    have hlt' : (e : Int) < (s.length : Int) := by omega
    have hg : s[e]? = some s[e] := List.getElem?_eq_getElem hlt
    have hd : s.drop e = s[e] :: s.drop (e + 1) := List.drop_eq_getElem_cons hlt
    by_cases hc : s[e] ∈ letters
    · have hw : ((s.drop e).takeWhile isL).length = ((s.drop (e + 1)).takeWhile isL).length + 1 := by
        rw [hd, List.takeWhile_cons_of_pos (by simp [isL, hc])]; rfl
      have h := ih (e + 1) n (by omega) (by omega) (by omega)
      rw [hw, show e + (((s.drop (e + 1)).takeWhile isL).length + 1) = e + 1 + ((s.drop (e + 1)).takeWhile isL).length by omega, ← h]
      have hc' : s[e] ∈ z_abcdefghijklmnopqrstuvwx := hc
      simp [loopW, tIn, len_str (show s.length ≤ 16777216 by omega), hlt', op_ix_str (show s.length ≤ 16777216 by omega), hg, hc']
    · have hw : (s.drop e).takeWhile isL = [] := by
        rw [hd, List.takeWhile_cons_of_neg (by simp [isL, hc])]
      have hc' : ¬ s[e] ∈ z_abcdefghijklmnopqrstuvwx := hc
      rw [hw]
      simp [loopW, tIn, len_str (show s.length ≤ 16777216 by omega), hlt', op_ix_str (show s.length ≤ 16777216 by omega), hg, hc']
theorem cut_nat {α : Type} (s : List α) (a b : Nat) (h1 : a ≤ b) (h2 : b ≤ s.length) : cutD s (some (a : Int)) (some (b : Int)) = (s.drop a).take (b - a) := by
  unfold cutD HT.sIx
  simp only [if_neg (show ¬ (a : Int) < 0 by omega), if_neg (show ¬ (b : Int) < 0 by omega), Int.toNat_natCast]
  simp only [Nat.min_eq_left (show a ≤ s.length by omega), Nat.min_eq_left h2]
theorem take_while_len (p : Nat → Bool) : ∀ l : List Nat, l.take (l.takeWhile p).length = l.takeWhile p
  | [] => rfl
  | x :: l => by
    unfold List.takeWhile
    split
    · simp [take_while_len p l]
    · rfl
theorem drop_while_len (p : Nat → Bool) : ∀ l : List Nat, l.drop (l.takeWhile p).length = l.dropWhile p
  | [] => rfl
  | x :: l => by
    unfold List.takeWhile List.dropWhile
    split
    · simp [drop_while_len p l]
    · rfl
noncomputable def tSg : SMo Bool := (vTest (vOp opLt (vVar 2) (vB fLen (vCons (vVar 0) (vNil)))))
noncomputable def bSg : SMs := (sSeq (sAsg (vOp opAdd (vVar 2) (vC (.int 1))) (gName 3))
    (sSeq (sIf (vTest (vOp opIn (vOp opIx (vVar 0) (vVar 2)) (vC (.str z___)))) (sSeq (sAsg (vVar 3) (gName 2))
    (sCnt)) (sNil))
    (sSeq (sIf (vTest (vOp opIn (vOp opIx (vVar 0) (vVar 2)) (vC k_LETTERS))) (sSeq (sWhile tIn (sAug 3 opIadd (vC (.int 1))))
    (sExpr (vM "list" mAppend (vVar 1) (vCons (vTup (vCons (vC (.str z_word)) (vCons (vSl (vVar 0) (vPart (vVar 2)) (vPart (vVar 3))) (vCons (vVar 2) (vNil))))) (vNil))))) (sIf (vTest (vOp opIn (vOp opIx (vVar 0) (vVar 2)) (vC k_MARKS))) (sExpr (vM "list" mAppend (vVar 1) (vCons (vTup (vCons (vC (.str z_mark)) (vCons (vOp opIx (vVar 0) (vVar 2)) (vCons (vVar 2) (vNil))))) (vNil)))) (sRet (vB fTuple (vCons (vOp opAdd (vVar 1) (vLst (vCons (vTup (vCons (vC (.str z_strange)) (vCons (vC (.str z_empty)) (vCons (vVar 2) (vNil))))) (vNil)))) (vNil))))))
    (sAsg (vVar 3) (gName 2)))))
theorem mem_nl {c : Nat} : (c ∈ z___) ↔ (c = 32 ∨ c = 10) := by simp [z___]
theorem sg_loop (s : List Nat) (M : Hh) (hs : s.length ≤ 1000000) : ∀ (f a n : Nat) (acc : List D) (x : Option D), s.length ≤ a + f → a ≤ s.length → f < n → acc.length ≤ a →
    ∃ G, ((loopW tSg bSg n [some (.str s), some (.loc M.length), some (.int (a : Nat)), x] (M ++ [.lst acc])).bind (sRet (vB fTuple (vCons (vVar 1) (vNil))))).res = .ok (.tup (acc ++ (sgn f a (s.drop a)).map Tk.toD)) (M ++ G) := by
  have hl := len_str (M := M) (show s.length ≤ 16777216 by omega)
  intro f
  induction f with
  | zero =>
    intro a n acc x ha hb hn hc
    obtain ⟨n, rfl⟩ : ∃ j, n = j + 1 := ⟨n - 1, by omega⟩
    have : a = s.length := by omega
    subst this
    exact ⟨[.lst acc], by simp [loopW, tSg, len_str (show s.length ≤ 16777216 by omega), sgn, fTuple]⟩
  | succ f ih =>
    intro a n acc x ha hb hn hc
    obtain ⟨n, rfl⟩ : ∃ j, n = j + 1 := ⟨n - 1, by omega⟩
    have el : ∀ (x : D) (l : List D), acc ++ x :: l = acc ++ [x] ++ l := by simp
    by_cases hlt : a < s.length
    · have hlt' : (a : Int) < (s.length : Int) := by omega
      have hg : s[a]? = some s[a] := List.getElem?_eq_getElem hlt
      have hd : s.drop a = s[a] :: s.drop (a + 1) := List.drop_eq_getElem_cons hlt
      have ix := fun M' : Hh => op_ix_str (M := M') (i := a) (show s.length ≤ 16777216 by omega)
      by_cases c1 : s[a] ∈ z___
      · obtain ⟨G, h⟩ := ih (a + 1) n acc (some (.int ((a : Int) + 1))) (by omega) (by omega) (by omega) (by omega)
        refine ⟨G, ?_⟩
        have e1 : sgn (f + 1) a (s.drop a) = sgn f (a + 1) (s.drop (a + 1)) := by
          rw [hd]; conv => lhs; unfold sgn
          rw [if_pos (mem_nl.mp c1)]
        rw [e1, ← h]
        simp [loopW, tSg, bSg, len_str (show s.length ≤ 16777216 by omega), hlt', ix, hg, c1]
      · have c1' : ¬ (s[a] = 32 ∨ s[a] = 10) := fun h => c1 (mem_nl.mpr h)
        by_cases c2 : s[a] ∈ letters
        · have c2' : s[a] ∈ z_abcdefghijklmnopqrstuvwx := c2
          have hw : ((s.drop a).takeWhile isL).length = ((s.drop (a + 1)).takeWhile isL).length + 1 := by
            rw [hd, List.takeWhile_cons_of_pos (by simp [isL, c2])]; rfl
          have hle : ((s.drop a).takeWhile isL).length ≤ s.length - a := by
            have := List.IsPrefix.length_le (List.takeWhile_prefix (l := s.drop a) isL)
            simpa using this
          have hin := fun M' : Hh => in_loop s M' hs (.loc M.length) (.int (a : Nat)) _ (a + 1) NN rfl (by unfold NN; omega) (by omega)
          rw [show a + 1 + ((s.drop (a + 1)).takeWhile isL).length = a + ((s.drop a).takeWhile isL).length by omega] at hin
          obtain ⟨e, he⟩ : ∃ e, e = a + ((s.drop a).takeWhile isL).length := ⟨_, rfl⟩
          rw [← he] at hin
          have hcut : cutD s (some (a : Int)) (some (e : Int)) = (s.drop a).takeWhile isL := by
            rw [cut_nat s a e (by omega) (by omega), show e - a = ((s.drop a).takeWhile isL).length by omega, take_while_len]
          obtain ⟨G, h⟩ := ih e n (acc ++ [(⟨0, (s.drop a).takeWhile isL, a⟩ : Tk).toD]) (some (.int (e : Nat))) (by omega) (by omega) (by omega) (by simp; omega)
          refine ⟨G, ?_⟩
          have e1 : sgn (f + 1) a (s.drop a) = ⟨0, (s.drop a).takeWhile isL, a⟩ :: sgn f e (s.drop e) := by
            have hde : s.drop e = (s.drop a).dropWhile isL := by
              rw [← drop_while_len, List.drop_drop, he]
            rw [hde, he, hd]
            conv => lhs; unfold sgn
            rw [if_neg c1', if_pos (by simp [isL, c2])]
          rw [e1, List.map_cons, el, ← h]
          simp only [Int.natCast_add, Int.natCast_one] at hin
          simp [loopW, tSg, bSg, len_str (show s.length ≤ 16777216 by omega), hlt', ix, hg, c1, c2', hin, slD, (show s.length ≤ 16777216 by omega), hcut, tyM, mAppend, (show acc.length < 16777216 by omega), Tk.toD, kindOf]
        · have c2' : ¬ s[a] ∈ z_abcdefghijklmnopqrstuvwx := c2
          by_cases c3 : s[a] ∈ marks
          · have c3' : s[a] ∈ z______________01 := c3
            obtain ⟨G, h⟩ := ih (a + 1) n (acc ++ [(⟨1, [s[a]], a⟩ : Tk).toD]) (some (.int ((a : Int) + 1))) (by omega) (by omega) (by omega) (by simp; omega)
            refine ⟨G, ?_⟩
            have e1 : sgn (f + 1) a (s.drop a) = ⟨1, [s[a]], a⟩ :: sgn f (a + 1) (s.drop (a + 1)) := by
              rw [hd]
              conv => lhs; unfold sgn
              rw [if_neg c1', if_neg (by simp [isL, c2]), if_pos c3]
            rw [e1, List.map_cons, el, ← h]
            simp [loopW, tSg, bSg, len_str (show s.length ≤ 16777216 by omega), hlt', ix, hg, c1, c2', c3', tyM, mAppend, (show acc.length < 16777216 by omega), Tk.toD, kindOf]
          · have c3' : ¬ s[a] ∈ z______________01 := c3
            have e1 : sgn (f + 1) a (s.drop a) = [⟨2, [], a⟩] := by
              rw [hd]
              conv => lhs; unfold sgn
              rw [if_neg c1', if_neg (by simp [isL, c2]), if_neg c3]
            refine ⟨[.lst acc, .lst [(⟨2, [], a⟩ : Tk).toD], .lst (acc ++ [(⟨2, [], a⟩ : Tk).toD])], ?_⟩
            rw [e1]
            have i3 : ∀ (x y : MO) (xs : List D), itemsD (.loc (M.length + 1 + 1)) (M ++ [x, y, .lst xs]) = some xs := fun x y xs => by
              unfold itemsD
              simp only []
              rw [List.getElem?_append_right (by omega), show M.length + 1 + 1 - M.length = 2 by omega]
              rfl
            simp [loopW, tSg, bSg, len_str (show s.length ≤ 16777216 by omega), hlt', ix, hg, c1, c2', c3', opAdd, fTuple, i3, (show acc.length + 1 ≤ 16777216 by omega), Tk.toD, kindOf, z_empty]
    · have : a = s.length := by omega
      subst this
      exact ⟨[.lst acc], by simp [loopW, tSg, len_str (show s.length ≤ 16777216 by omega), sgn, fTuple]⟩
theorem f_signs_of (k : Nat) (s : List Nat) (M : Hh) (hs : s.length ≤ 1000000) : callF (k + 1) 3 [.str s] M = .ok (.tup ((signs s).map Tk.toD)) M := by
  show runF 4 (m_signs_of (callF k)) [.str s] M = _
  refine run_ok ?_ (pure_tks _)
  obtain ⟨G, h⟩ := sg_loop s M hs s.length 0 NN [] none (by omega) (by omega) (by unfold NN; omega) (by simp)
  refine ⟨G, ?_⟩
  have e0 : m_signs_of (callF k) = sSeq (sPar 1 2 (vLst (vNil)) (vC (.int 0))) (sSeq (sWhile tSg bSg) (sRet (vB fTuple (vCons (vVar 1) (vNil))))) := rfl
  rw [e0, start1]
  simp only [List.drop_zero, List.nil_append, Int.ofNat_zero] at h
  rw [show signs s = sgn s.length 0 s from rfl, ← h]
  simp
end Gm.K28

set_option Elab.async false
set_option linter.all false
set_option maxRecDepth 100000
set_option maxHeartbeats 1000000
set_option autoImplicit false
namespace Gm.K28
open Gm
/-! ### read_test -/
theorem f_init (k : Nat) (s : List Nat) (M : Hh) (hs : s.length ≤ 1000000) : callF (k + 2) 31 [.loc M.length, .str s] (M ++ [.ins 41 []]) = .ok .non (M ++ [sgO (signs s) s.length 0]) := by
  have h0 : callF (k + 2) 31 = runF 2 (m_Signs___init__ (callF (k + 1))) := rfl
  rw [h0]
  have e : (M ++ [MO.ins 41 []]).set M.length (sgO (signs s) s.length 0) = M ++ [sgO (signs s) s.length 0] := set_last
  rw [← e]
  refine run_set (l := M.length) (o := sgO (signs s) s.length 0) (d := .non) ⟨[], ?_⟩ rfl (by simp [sgO, ltM, ltF, ltD, lt_of_pures (pure_tks (signs s))])
  simp [m_Signs___init__, start2, f_signs_of _ _ _ hs, setFld, putN, len_str (show s.length ≤ 16777216 by omega), sgO]
def readP (s : List Nat) : PR := match orP (signs s) (leastP (signs s) s.length 10) 0 with
  | .ok t a => if a < (signs s).length then .err (placeP (signs s) s.length a) a else if t.depth ≤ 10 then .ok t a else .err s.length a
  | .err p a => .err p a
def sgOf (s : List Nat) (M : Hh) : Sg := ⟨M ++ [.ins 41 []], M.length, s.length, signs s, by simp⟩
theorem sgOf_h (s : List Nat) (M : Hh) (a : Nat) : (sgOf s M).h a = M ++ [sgO (signs s) s.length a] := set_last
theorem word_len (s : List Nat) (a : Nat) (w : List Nat) (h : wordP (signs s) a = some w) : w.length ≤ s.length := by
  unfold wordP at h
  split at h
  · next t e =>
    split at h
    · cases h
      exact sgn_word _ _ _ t (List.mem_of_getElem? e)
    · cases h
  · cases h
theorem or_adv {s : List Nat} {t : Te} {a : Nat} (h : orP (signs s) (leastP (signs s) s.length 10) 0 = .ok t a) : t.size ≤ a ∧ t.ok = true := by
  have := adv_or (signs s) (adv_least (signs s) s.length 10) 0 t a h
  exact ⟨by omega, this.2⟩
/-- places of the walk do not pass the end -/
def Cap (L : Nat) (sub : Nat → PR) : Prop := ∀ a t a', a ≤ L → sub a = .ok t a' → a' ≤ L
theorem cap_atom (R : List Tk) (n : Nat) : Cap R.length (atomP R n) := by
  intro a t a' ha h
  have hl : ∀ w, wordP R a = some w → a < R.length := by
    intro w hw
    unfold wordP at hw
    split at hw
    · next t e =>
      rcases Nat.lt_or_ge a R.length with h' | h'
      · exact h'
      · rw [List.getElem?_eq_none_iff.mpr h'] at e; cases e
    · cases hw
  unfold atomP at h
  split at h
  · next w e =>
    have := hl w e
    split at h
    · cases h; omega
    · split at h
      · cases h; omega
      · split at h
        · cases h; omega
        · cases h
  · cases h
theorem cap_chain (R : List Tk) {w : List Nat} {mk : Te → Te → Te} {sub : Nat → PR} (hs : Cap R.length sub) :
    ∀ (f : Nat) (t : Te) (a : Nat) (t' : Te) (a' : Nat), a ≤ R.length → chainP R w mk sub f t a = .ok t' a' → a' ≤ R.length := by
  intro f
  induction f with
  | zero => intro t a t' a' ha h; cases h; exact ha
  | succ f ih =>
    intro t a t' a' ha h
    unfold chainP at h
    split at h
    · next e1 =>
      have := sees_lt e1
      split at h
      · next t2 a2 e => exact ih _ _ _ _ (hs _ _ _ (by omega) e) h
      · cases h
    · cases h; exact ha
theorem cap_and (R : List Tk) {sub : Nat → PR} (hs : Cap R.length sub) : Cap R.length (andP R sub) := by
  intro a t a' ha h
  unfold andP at h
  split at h
  · next t1 a1 e => exact cap_chain R hs _ _ _ _ _ (hs _ _ _ ha e) h
  · cases h
theorem cap_or (R : List Tk) {sub : Nat → PR} (hs : Cap R.length sub) : Cap R.length (orP R sub) := by
  intro a t a' ha h
  unfold orP at h
  split at h
  · next t1 a1 e => exact cap_chain R (cap_and R hs) _ _ _ _ _ (cap_and R hs _ _ _ ha e) h
  · cases h
theorem cap_least (R : List Tk) (n : Nat) : ∀ e, Cap R.length (leastP R n e)
  | 0 => by
    intro a t a' ha h
    unfold leastP at h
    split at h
    · cases h
    · exact cap_atom R n _ _ _ ha h
  | e + 1 => by
    intro a t a' ha h
    unfold leastP at h
    split at h
    · next e1 =>
      have := sees_lt e1
      split at h
      · next t1 a1 e2 =>
        have h1 := cap_least R n e _ _ _ (by omega) e2
        cases h; exact h1
      · cases h
    · split at h
      · next e1 =>
        have := sees_lt e1
        split at h
        · next t1 a1 e2 =>
          have h1 := cap_or R (cap_least R n e) _ _ _ (by omega) e2
          split at h
          · next e3 =>
            have := sees_lt e3
            cases h; omega
          · cases h
        · cases h
      · exact cap_atom R n _ _ _ ha h
theorem read_ok {s : List Nat} {t : Te} {a : Nat} (h : readP s = .ok t a) : t.ok = true ∧ t.depth ≤ 10 ∧ t.size ≤ s.length := by
  unfold readP at h
  split at h
  · next t1 a1 e =>
    have h1 := or_adv e
    have h2 := cap_or _ (cap_least (signs s) s.length 10) _ _ _ (Nat.zero_le _) e
    have h3 := sgn_len s.length 0 s
    split at h
    · cases h
    · split at h
      · next hd => cases h; exact ⟨h1.2, hd, Nat.le_trans h1.1 (Nat.le_trans h2 h3)⟩
      · cases h
  · cases h
def PR.out (M : Hh) : PR → Res D
  | .ok t _ => .ok t.toD M
  | .err p _ => .exc 40 [(1, .int p)] M
theorem f_read_test (k : Nat) (s : List Nat) (M : Hh) (hs : s.length ≤ 1000000) : callF (k + 36) 10 [.str s] M = (readP s).out M := by
  show runF 3 (m_read_test (callF (k + 35))) [.str s] M = _
  have hR : (sgOf s M).R.length ≤ 1000000 := Nat.le_trans (sgn_len s.length 0 s) hs
  have h13 := f_least (sgOf s M) hR (fun a w h => Nat.le_trans (word_len s a w h) (by omega)) 10 k 1 (by omega) (by omega)
  have h12 := f_read_and (sgOf s M) (k + 31) _ _ h13 (adv_least _ _ 10) hR
  have h11 := f_read_or (sgOf s M) (k + 32) _ _ h12 (adv_least _ _ 10) hR
  have hi := f_init (k + 33) s M hs
  rw [← sgOf_h] at hi
  have h11' : callF (k + 35) 11 [.loc M.length, .int 1] ((sgOf s M).h 0) = (orP (signs s) (leastP (signs s) s.length 10) 0).res (sgOf s M) := h11 0
  have hlen := fun M' : Hh => len_str (M := M') (a := s) (show s.length ≤ 16777216 by omega)
  unfold readP
  cases h1 : orP (signs s) (leastP (signs s) s.length 10) 0 with
  | err p a =>
    refine run_exc ⟨[sgO (signs s) s.length a], ?_⟩ rfl
    rw [← sgOf_h]
    simp [m_read_test, start1, hi, h11', h1, PR.res, PR.out]
  | ok t a =>
    have hd' : callF (k + 35) 37 [.loc M.length] ((sgOf s M).h a) = if a < (signs s).length then .exc 40 [(1, .int (placeP (signs s) s.length a))] ((sgOf s M).h a) else .ok .non ((sgOf s M).h a) := f_done (sgOf s M) (k + 33) a
    have hg : ((sgOf s M).h a)[M.length]? = some (.ins 41 [(9, .tup ((signs s).map Tk.toD)), (8, .int s.length), (7, .int a)]) := sg_get (sgOf s M) a
    have ho := or_adv h1
    have hcap : a ≤ (signs s).length := cap_or _ (cap_least (signs s) s.length 10) _ _ _ (Nat.zero_le _) h1
    have hlt : (signs s).length ≤ s.length := sgn_len s.length 0 s
    by_cases ha : a < (signs s).length
    · simp only [if_pos ha]
      refine run_exc ⟨[sgO (signs s) s.length a], ?_⟩ rfl
      rw [← sgOf_h]
      simp [m_read_test, start1, hi, h11', h1, PR.res, hg, List.lookup, hd', ha]
    · have ht := f_is_test (k + 32) t ((sgOf s M).h a) ho.2 (by omega)
      by_cases hdp : t.depth ≤ 10
      · simp only [if_neg ha, if_pos hdp]
        refine run_ok ⟨[sgO (signs s) s.length a], ?_⟩ (Te.pure_toD t)
        rw [← sgOf_h]
        simp [m_read_test, start1, hi, h11', h1, PR.res, hg, List.lookup, hd', ha, ht, hdp]
      · simp only [if_neg ha, if_neg hdp]
        refine run_exc ⟨[sgO (signs s) s.length a], ?_⟩ rfl
        rw [← sgOf_h]
        simp [m_read_test, start1, hi, h11', h1, PR.res, hg, List.lookup, hd', ha, ht, hdp, hlen, errD]
end Gm.K28

set_option Elab.async false
set_option linter.all false
set_option maxRecDepth 100000
set_option maxHeartbeats 1000000
set_option autoImplicit false
namespace Gm
open L2
theorem atI_neg {α : Type} (xs : List α) (j : Nat) (h1 : 1 ≤ j) (h2 : j ≤ xs.length) : atI xs (-(j : Int)) = xs[xs.length - j]? := by
  unfold atI ixN
  rw [if_neg (by omega), if_pos (by omega)]
  show xs[(-(j : Int) + xs.length).toNat]? = _
  rw [show (-(j : Int) + xs.length).toNat = xs.length - j by omega]
theorem atI_0 {α : Type} {x : α} {l : List α} : atI (x :: l) 0 = some x := atI_nat (x :: l) 0
theorem atI_1 {α : Type} {x y : α} {l : List α} : atI (x :: y :: l) 1 = some y := atI_nat (x :: y :: l) 1
theorem op_ix_last {M : Hh} {xs : List D} {i : Int} : opIx (.loc M.length) (.int i) (M ++ [.lst xs]) = (atI xs i).map fun d => (d, M ++ [.lst xs]) := by
  simp [opIx]
theorem len_last {M : Hh} {xs : List D} : fLen [.loc M.length] (M ++ [.lst xs]) = some (.int xs.length, M ++ [.lst xs]) := by simp [fLen]
theorem split_sum (c : Nat) : ∀ l : List Nat, ((splitD c l).map List.length).sum + (splitD c l).length = l.length + 1
  | [] => rfl
  | x :: r => by
    have ih := split_sum c r
    unfold splitD
    by_cases h : x = c
    · rw [if_pos h]; simp only [List.map_cons, List.length_nil, List.sum_cons, List.length_cons]; omega
    · rw [if_neg h]
      obtain ⟨y, ys, e⟩ := splitD_cons c r
      rw [e] at ih ⊢
      simp only [List.map_cons, List.sum_cons, List.length_cons] at ih ⊢; omega
theorem sum_mem {x : List Nat} : ∀ {l : List (List Nat)}, x ∈ l → x.length ≤ (l.map List.length).sum
  | y :: l, h => by
    simp only [List.map_cons, List.sum_cons]
    rcases List.mem_cons.mp h with rfl | h
    · omega
    · have := sum_mem h; omega
theorem split_mem {c : Nat} {l x : List Nat} (h : x ∈ splitD c l) : x.length ≤ l.length := by
  have h1 := sum_mem h
  have h2 := split_sum c l
  obtain ⟨y, ys, e⟩ := splitD_cons c l
  have : 1 ≤ (splitD c l).length := by rw [e]; simp
  omega
theorem sum_sub {k : List (List Nat)} {l : List (List Nat)} (h : List.Sublist k l) : (k.map List.length).sum ≤ (l.map List.length).sum := by
  induction h with
  | slnil => exact Nat.le_refl _
  | cons a h ih => simp only [List.map_cons, List.sum_cons]; omega
  | cons_cons a h ih => simp only [List.map_cons, List.sum_cons]; omega
theorem join_len (sep : List Nat) : ∀ l : List (List Nat), (joinD sep l).length ≤ (l.map List.length).sum + l.length * sep.length
  | [] => by simp [joinD]
  | [x] => by simp [joinD]
  | x :: y :: r => by
    have := join_len sep (y :: r)
    simp only [joinD, List.length_append, List.map_cons, List.sum_cons, List.length_cons, Nat.add_mul] at this ⊢
    omega
theorem map_sub {α β : Type} {f : α → β} {k l : List α} (h : List.Sublist k l) : List.Sublist (k.map f) (l.map f) := h.map f
end Gm
namespace Gm.K28
open Gm
open L2
inductive Ln where
  | doL (n : List Nat) | goL (g : Nat) | un (t : Te) (g : Nat) | stop
  deriving DecidableEq
def Ln.toD : Ln → D
  | .doL n => .tup [.str z_do, .str n]
  | .goL g => .tup [.str z_go, .int g]
  | .un t g => .tup [.str z_unless, t.toD, .int g]
  | .stop => .tup [.str z_stop]
theorem Ln.pure (x : Ln) : pureD x.toD = true := by
  cases x <;> simp [Ln.toD, pureD, pureDs, Te.pure_toD]
def optL : Option Ln → D
  | some x => x.toD
  | none => .non
theorem optL_pure (x : Option Ln) : pureD (optL x) = true := by
  cases x with
  | none => rfl
  | some x => exact x.pure
def figsN (s : List Nat) : Nat := ((figsVal s).getD 0).toNat
theorem figs_of {s : List Nat} (h : isFigs s = true) : figsVal s = some (figsN s : Int) ∧ figsN s < 1000 ∧ figs (figsN s) = s := by
  unfold isFigs at h
  simp only [Bool.and_eq_true, decide_eq_true_eq] at h
  cases e : figsVal s with
  | none => rw [e] at h; simp at h
  | some n =>
    have hs := figs_small e h.1.1.2
    have hn : ((figsN s : Nat) : Int) = n := by unfold figsN; rw [e]; simp; omega
    rw [e] at h
    refine ⟨by rw [hn], by omega, ?_⟩
    rw [hn]
    exact eq_of_beq h.2
def lineP (L : List Nat) : Option Ln :=
  let W := splitD 32 L
  let w0 := W.headD []
  let w1 := (W[1]?).getD []
  let wp := (W[W.length - 2]?).getD []
  let wl := (W[W.length - 1]?).getD []
  if L == z_stop then some .stop
  else if w0 == z_do && decide (W.length = 2) && isName w1 then some (.doL w1)
  else if w0 == z_go && decide (W.length = 2) && isFigs w1 then some (.goL (figsN w1))
  else if w0 == z_unless && decide (3 < W.length) && wp == z_go && isFigs wl then
    (match readP (joinD [32] ((W.drop 1).take (W.length - 3))) with
    | .ok t _ => if wr t == joinD [32] ((W.drop 1).take (W.length - 3)) then some (.un t (figsN wl)) else none
    | .err _ _ => none)
  else none
theorem f_line_of (k : Nat) (L : List Nat) (M : Hh) (hL : L.length ≤ 100000) : callF (k + 37) 19 [.str L] M = .ok (optL (lineP L)) M := by
  show runF 4 (m_line_of (callF (k + 36))) [.str L] M = _
  refine run_ok ?_ (optL_pure _)
  have hsp : ∀ M' : Hh, mSplit (.str L) [.str z_sp] M' = some (.loc M'.length, M' ++ [.lst ((splitD 32 L).map D.str)]) := fun M' => by
    show (if L.length + 2 ≤ 16777216 ∧ 32 < 256 then _ else _) = _
    rw [if_pos ⟨by omega, by decide⟩]
  obtain ⟨w0, r, hW⟩ := splitD_cons 32 L
  have hsum := split_sum 32 L
  have hmem : ∀ x ∈ splitD 32 L, x.length ≤ 16777216 := fun x hx => Nat.le_trans (split_mem hx) (by omega)
  have hlw : (splitD 32 L).length ≤ L.length + 1 := by omega
  unfold lineP
  obtain ⟨W, hWe⟩ : ∃ W, W = splitD 32 L := ⟨_, rfl⟩
  rw [← hWe] at hsp hW hsum hmem hlw ⊢
  have a0 : ∀ M' : Hh, opIx (.loc M'.length) (.int 0) (M' ++ [.lst (W.map D.str)]) = some (.str w0, M' ++ [.lst (W.map D.str)]) := fun M' => by
    rw [op_ix_last, hW, List.map_cons, atI_0]; rfl
  simp only [hW, List.headD_cons]
  rw [← hW]
  by_cases c1 : L = z_stop
  · subst c1
    exact ⟨[.lst (W.map D.str)], by simp [m_line_of, start1, tyM, hsp, optL, Ln.toD]⟩
  · have c1' : (L == z_stop) = false := by simpa using c1
    by_cases hlen : W.length = 2
    · have hl2 : ((W.length : Nat) : Int) = 2 := by omega
      obtain ⟨w1, hW2⟩ : ∃ w1, W = [w0, w1] := by
        rw [hW] at hlen ⊢
        match r, hlen with
        | [w1], _ => exact ⟨w1, rfl⟩
      have m1 : w1.length ≤ 16777216 := hmem w1 (by rw [hW2]; simp)
      have a1 : ∀ M' : Hh, opIx (.loc M'.length) (.int 1) (M' ++ [.lst (W.map D.str)]) = some (.str w1, M' ++ [.lst (W.map D.str)]) := fun M' => by
        rw [op_ix_last, hW2, List.map_cons, List.map_cons, atI_1]; rfl
      have g1 : W[1]? = some w1 := by rw [hW2]; rfl
      simp only [g1, Option.getD_some]
      refine ⟨[.lst (W.map D.str)], ?_⟩
      by_cases d1 : w0 = z_do
      · subst d1
        have e1 : (z_do == z_go) = false := by decide
        have e2 : (z_do == z_unless) = false := by decide
        cases hn : isName w1 with
        | true => simp [m_line_of, start1, tyM, hsp, c1', a0, a1, len_last, hl2, hlen, f_is_name _ _ _ m1, hn, g1, optL, Ln.toD]
        | false => simp [m_line_of, start1, tyM, hsp, c1', a0, a1, len_last, hl2, hlen, f_is_name _ _ _ m1, hn, g1, optL, e1, e2]
      · have d1' : (w0 == z_do) = false := by simpa using d1
        by_cases d2 : w0 = z_go
        · subst d2
          have e2 : (z_go == z_unless) = false := by decide
          cases hn : isFigs w1 with
          | true =>
            obtain ⟨hv, _, _⟩ := figs_of hn
            simp [m_line_of, start1, tyM, hsp, c1', a0, a1, len_last, hl2, hlen, f_is_figures _ _ _ m1, hn, g1, optL, Ln.toD, d1', fInt, hv]
          | false => simp [m_line_of, start1, tyM, hsp, c1', a0, a1, len_last, hl2, hlen, f_is_figures _ _ _ m1, hn, g1, optL, d1', e2]
        · have d2' : (w0 == z_go) = false := by simpa using d2
          cases d3 : w0 == z_unless with
          | true => simp [m_line_of, start1, tyM, hsp, c1', a0, a1, len_last, hl2, hlen, optL, d1', d2', d3]
          | false => simp [m_line_of, start1, tyM, hsp, c1', a0, a1, len_last, hl2, hlen, optL, d1', d2', d3]
    · have hl2 : ¬ ((W.length : Nat) : Int) = 2 := by omega
      have hl2' : (((W.length : Nat) : Int) == 2) = false := by simpa using hl2
      by_cases h3 : 3 < W.length
      · have h3' : (3 : Int) < (W.length : Int) := by omega
        have gp : W[W.length - 2]? = some W[W.length - 2] := List.getElem?_eq_getElem (by omega)
        have gl : W[W.length - 1]? = some W[W.length - 1] := List.getElem?_eq_getElem (by omega)
        obtain ⟨wp, hwp⟩ : ∃ x, x = W[W.length - 2] := ⟨_, rfl⟩
        obtain ⟨wl, hwl⟩ : ∃ x, x = W[W.length - 1] := ⟨_, rfl⟩
        rw [← hwp] at gp
        rw [← hwl] at gl
        have ml : wl.length ≤ 16777216 := hmem wl (by rw [hwl]; exact List.getElem_mem _)
        have ap : ∀ M' : Hh, opIx (.loc M'.length) (.int (-2)) (M' ++ [.lst (W.map D.str)]) = some (.str wp, M' ++ [.lst (W.map D.str)]) := fun M' => by
          rw [op_ix_last, show (-2 : Int) = -((2 : Nat) : Int) from rfl, atI_neg _ 2 (by omega) (by simp; omega), List.length_map, List.getElem?_map, gp]; rfl
        have al : ∀ M' : Hh, opIx (.loc M'.length) (.int (-1)) (M' ++ [.lst (W.map D.str)]) = some (.str wl, M' ++ [.lst (W.map D.str)]) := fun M' => by
          rw [op_ix_last, show (-1 : Int) = -((1 : Nat) : Int) from rfl, atI_neg _ 1 (by omega) (by simp; omega), List.length_map, List.getElem?_map, gl]; rfl
        have al2 : ∀ (M' : Hh) (X : MO), opIx (.loc M'.length) (.int (-1)) (M' ++ [.lst (W.map D.str), X]) = some (.str wl, M' ++ [.lst (W.map D.str), X]) := fun M' X => by
          have e : atI (W.map D.str) (-1) = some (.str wl) := by
            rw [show (-1 : Int) = -((1 : Nat) : Int) from rfl, atI_neg _ 1 (by omega) (by simp; omega), List.length_map, List.getElem?_map, gl]; rfl
          simp [opIx, e]
        simp only [gp, gl, Option.getD_some]
        obtain ⟨Y, hY⟩ : ∃ x, x = (W.drop 1).take (W.length - 3) := ⟨_, rfl⟩
        rw [← hY]
        obtain ⟨told, htold⟩ : ∃ x, x = joinD [32] Y := ⟨_, rfl⟩
        have hcut : cutD (W.map D.str) (some 1) (some (-2)) = Y.map D.str := by
          rw [hY]
          unfold cutD HT.sIx
          simp only [List.length_map]
          simp only [if_neg (show ¬ (1 : Int) < 0 by decide), if_pos (show (-2 : Int) < 0 by decide), show (1 : Int).toNat = 1 from rfl, show ((-2 : Int) + (W.length : Int)).toNat = W.length - 2 by omega, Nat.min_eq_left (show 1 ≤ W.length by omega)]
          rw [show W.length - 2 - 1 = W.length - 3 by omega, ← List.map_drop, ← List.map_take]
        have hsl : ∀ M' : Hh, slD (.loc M'.length) (some 1) (some (-2)) (M' ++ [.lst (W.map D.str)]) = some (.loc (M'.length + 1), M' ++ [.lst (W.map D.str), .lst (Y.map D.str)]) := fun M' => by
          simp [slD, hcut]
        have hss := sum_sub (List.Sublist.trans (List.take_sublist (W.length - 3) (W.drop 1)) (List.drop_sublist 1 W))
        rw [← hY] at hss
        have hsl2 : Y.length ≤ W.length := by rw [hY]; simp; omega
        have hjl := join_len [32] Y
        have htl : told.length ≤ 1000000 := by
          rw [htold]; simp only [List.length_singleton] at hjl; omega
        have hj : ∀ (M' : Hh) (X : MO), mJoin (.str z_sp) [.loc (M'.length + 1)] (M' ++ [X, .lst (Y.map D.str)]) = some (.str told, M' ++ [X, .lst (Y.map D.str)]) := fun M' X => by
          have hi : itemsD (.loc (M'.length + 1)) (M' ++ [X, .lst (Y.map D.str)]) = some (Y.map D.str) := by
            unfold itemsD
            simp only []
            rw [List.getElem?_append_right (by omega), show M'.length + 1 - M'.length = 1 by omega]
            rfl
          unfold mJoin
          simp only [hi, Option.bind_some, strs_map]
          rw [if_pos (by show _ + _ * 1 ≤ _; omega), htold]
          rfl
        refine ⟨if w0 == z_unless && wp == z_go && isFigs wl then [.lst (W.map D.str), .lst (Y.map D.str)] else [.lst (W.map D.str)], ?_⟩
        rw [← htold]
        by_cases d3 : w0 = z_unless
        · subst d3
          have e1 : (z_unless == z_do) = false := by decide
          have e2 : (z_unless == z_go) = false := by decide
          by_cases d4 : wp = z_go
          · subst d4
            cases hn : isFigs wl with
            | true =>
              obtain ⟨hv, _, _⟩ := figs_of hn
              have hrt := fun M' : Hh => f_read_test k told M' htl
              cases hr : readP told with
              | err p a =>
               simp [m_line_of, start1, tyM, hsp, c1', a0, ap, al, len_last, hl2, hl2', hlen, h3, h3', e1, e2, f_is_figures _ _ _ ml, hn, gp, gl, optL, Ln.toD, fInt, hv, hsl, hj, hrt, hr, PR.out, handleD, mtOf, List.lookup, slotOk]
              | ok t a =>
                obtain ⟨ok1, ok2, ok3⟩ := read_ok hr
                have hft := fun M' : Hh => f_format_test (k + 31) t M' ok1 (by omega) ok2 (by omega)
                cases hw : wr t == told with
                | true => simp [m_line_of, start1, tyM, hsp, c1', a0, ap, al, len_last, hl2, hl2', hlen, h3, h3', e1, e2, f_is_figures _ _ _ ml, hn, gp, gl, optL, Ln.toD, fInt, hv, hsl, hj, hrt, hr, PR.out, hft, hw, al2]
                | false => simp [m_line_of, start1, tyM, hsp, c1', a0, ap, al, len_last, hl2, hl2', hlen, h3, h3', e1, e2, f_is_figures _ _ _ ml, hn, gp, gl, optL, Ln.toD, fInt, hv, hsl, hj, hrt, hr, PR.out, hft, hw, al2]
            | false => simp [m_line_of, start1, tyM, hsp, c1', a0, ap, al, len_last, hl2, hl2', hlen, h3, h3', e1, e2, f_is_figures _ _ _ ml, hn, gp, gl, optL]
          · have d4' : (wp == z_go) = false := by simpa using d4
            simp [m_line_of, start1, tyM, hsp, c1', a0, ap, al, len_last, hl2, hl2', hlen, h3, h3', e1, e2, gp, gl, optL, d4']
        · have d3' : (w0 == z_unless) = false := by simpa using d3
          by_cases d1 : w0 = z_do
          · subst d1
            have e2 : (z_do == z_go) = false := by decide
            simp [m_line_of, start1, tyM, hsp, c1', a0, len_last, hl2, hl2', hlen, d3', e2, optL]
          · have d1' : (w0 == z_do) = false := by simpa using d1
            by_cases d2 : w0 = z_go
            · subst d2
              simp [m_line_of, start1, tyM, hsp, c1', a0, len_last, hl2, hl2', hlen, d1', d3', optL]
            · have d2' : (w0 == z_go) = false := by simpa using d2
              simp [m_line_of, start1, tyM, hsp, c1', a0, len_last, hl2, hl2', hlen, d1', d2', d3', optL]
      · have h3' : ¬ (3 : Int) < (W.length : Int) := by omega
        refine ⟨[.lst (W.map D.str)], ?_⟩
        by_cases d1 : w0 = z_do
        · subst d1
          have e2 : (z_do == z_go) = false := by decide
          have e3 : (z_do == z_unless) = false := by decide
          simp [m_line_of, start1, tyM, hsp, c1', a0, len_last, hl2, hl2', hlen, e2, e3, optL]
        · have d1' : (w0 == z_do) = false := by simpa using d1
          by_cases d2 : w0 = z_go
          · subst d2
            have e3 : (z_go == z_unless) = false := by decide
            simp [m_line_of, start1, tyM, hsp, c1', a0, len_last, hl2, hl2', hlen, d1', e3, optL]
          · have d2' : (w0 == z_go) = false := by simpa using d2
            by_cases d3 : w0 = z_unless
            · subst d3
              simp [m_line_of, start1, tyM, hsp, c1', a0, len_last, hl2, hl2', hlen, d1', d2', h3, h3', optL]
            · have d3' : (w0 == z_unless) = false := by simpa using d3
              simp [m_line_of, start1, tyM, hsp, c1', a0, len_last, hl2, hl2', hlen, d1', d2', d3', h3, h3', optL]
end Gm.K28

set_option Elab.async false
set_option linter.all false
set_option maxRecDepth 100000
set_option maxHeartbeats 1000000
set_option autoImplicit false
namespace Gm.K28
open Gm
open L2
/-! ### is_line, code_fault, check_code -/
def Ln.fine : Ln → Bool
  | .doL n => isName n
  | .goL g => decide (g < 1000)
  | .un t g => t.ok && decide (t.depth ≤ 10) && decide (t.size ≤ 1000000) && decide (g < 1000)
  | .stop => true
def Ln.fits (x : Ln) (many : Nat) : Bool := match x with
  | .goL g => decide (g ≤ many)
  | .un _ g => decide (g ≤ many)
  | _ => true
theorem f_is_int (k : Nat) (i : Int) (M : Hh) : callF (k + 1) 0 [.int i] M = .ok (.bl true) M := f_is_integer k i M
theorem ix_neg1 {M : Hh} {xs : List D} {x : D} : opIx (.tup (xs ++ [x])) (.int (-1)) M = some (x, M) := by
  have : atI (xs ++ [x]) (-1) = some x := by
    rw [show (-1 : Int) = -((1 : Nat) : Int) from rfl, atI_neg _ 1 (by omega) (by simp)]; simp
  simp [opIx, this]
theorem ix_neg2 {M : Hh} {x y : D} : opIx (.tup [x, y]) (.int (-1)) M = some (y, M) := ix_neg1 (xs := [x])
theorem ix_neg3 {M : Hh} {x y z : D} : opIx (.tup [x, y, z]) (.int (-1)) M = some (z, M) := ix_neg1 (xs := [x, y])
theorem nin_two {M : Hh} {a b b' : List Nat} : opNin (.str a) (.tup [.str b, .str b']) M = some (.bl (!(b == a || b' == a)), M) := by simp [opNin, inD, seeD, pureD, pureDs, deps, dep, memD, deq]
theorem f_is_line (k : Nat) (x : Ln) (n : Nat) (M : Hh) (h : x.fine = true) : callF (k + 4) 15 [x.toD, .int n] M = .ok (.bl (x.fits n)) M := by
  show runF 2 (m_is_line (callF (k + 3))) [x.toD, .int n] M = _
  refine run_ok ⟨[], ?_⟩ rfl
  cases x with
  | doL s =>
    have hn : isName s = true := h
    simp [m_is_line, start2, Ln.toD, Ln.fits, f_is_name (k + 2) _ _ (isName_small hn), hn]
  | stop =>
    have c1 : (z_stop == z_do) = false := by decide
    simp [m_is_line, start2, Ln.toD, Ln.fits, c1]
  | goL g =>
    have c1 : (z_go == z_do) = false := by decide
    have c2 : (z_go == z_stop) = false := by decide
    have c3 : (z_go == z_unless) = false := by decide
    simp [m_is_line, start2, Ln.toD, Ln.fits, c1, c2, c3, nin_two, ix_neg2, f_is_int]
  | un t g =>
    have c1 : (z_unless == z_do) = false := by decide
    have c2 : (z_unless == z_stop) = false := by decide
    have c3 : (z_unless == z_go) = false := by decide
    simp only [Ln.fine, Bool.and_eq_true, decide_eq_true_eq] at h
    simp [m_is_line, start2, Ln.toD, Ln.fits, c1, c2, c3, nin_two, ix_neg3, f_is_int, f_is_test k t M h.1.1.1 h.1.2, h.1.1.2]
def bad1 (C : List Ln) (n : Nat) : Nat → List Ln → D
  | _, [] => .non
  | i, x :: r => if x.fits n then bad1 C n (i + 1) r else .int i
def faultD (C : List Ln) : D := if 80 < C.length then .str z_shape else bad1 C C.length 0 C
def codeD (C : List Ln) : D := .tup (C.map Ln.toD)
theorem code_pure (C : List Ln) : pureD (codeD C) = true := by
  unfold codeD
  simp only [pureD]
  induction C with
  | nil => rfl
  | cons x C ih => simp [pureDs, ih, Ln.pure]
theorem bad1_pure (C : List Ln) (n : Nat) : ∀ (i : Nat) (r : List Ln), pureD (bad1 C n i r) = true
  | _, [] => rfl
  | i, x :: r => by
    unfold bad1
    split
    · exact bad1_pure C n (i + 1) r
    · rfl
theorem faultD_pure (C : List Ln) : pureD (faultD C) = true := by
  unfold faultD
  split
  · rfl
  · exact bad1_pure _ _ _ _
theorem cf_loop (k : Nat) (C : List Ln) (M : Hh) (hC : ∀ x ∈ C, x.fine = true) : ∀ (r : List Ln) (i n : Nat) (x y : Option D), C.drop i = r → r.length < n → i ≤ C.length →
    ((loopF (fun i _ => if i ≤ C.length then some ((C.map Ln.toD)[i]?.map fun d => D.tup [.int (i : Int), d]) else none) (gTup 2 (gCons (gName 1) (gCons (gName 2) (gNil)))) (sIf (vNot (vTru (vCallN 2 (callF (k + 4) 15) (vCons (vVar 2) (vCons (vB fLen (vCons (vVar 0) (vNil))) (vNil)))))) (sRet (vVar 1)) (sNil)) n i [some (codeD C), x, y] M).bind (sRet (vC .non))).res = .ok (bad1 C C.length i r) M := by
  intro r
  induction r with
  | nil =>
    intro i n x y hd hn hi
    obtain ⟨n, rfl⟩ : ∃ j, n = j + 1 := ⟨n - 1, by omega⟩
    have : i = C.length := by
      have := congrArg List.length hd
      simp at this; omega
    subst this
    simp [loopF, bad1]
  | cons z r ih =>
    intro i n x y hd hn hi
    obtain ⟨n, rfl⟩ : ∃ j, n = j + 1 := ⟨n - 1, by omega⟩
    have hlt : i < C.length := by
      have := congrArg List.length hd
      simp at this; omega
    have hg : C[i]? = some z := by
      have : (C.drop i)[0]? = some z := by rw [hd]; rfl
      simpa using this
    have hd2 : C.drop (i + 1) = r := by
      have : (C.drop i).tail = r := by rw [hd]; rfl
      rw [← this]; simp
    have hz : z.fine = true := hC z (List.mem_of_getElem? hg)
    have hl := f_is_line k z C.length M hz
    have hgm : (C.map Ln.toD)[i]? = some z.toD := by rw [List.getElem?_map, hg]; rfl
    cases hf : z.fits C.length with
    | true =>
      have h := ih (i + 1) n (some (.int i)) (some z.toD) hd2 (by simp at hn; omega) (by omega)
      unfold bad1
      rw [if_pos hf, ← h]
      simp [loopF, hi, hgm, codeD, hl, hf, -List.getElem?_map]
    | false =>
      unfold bad1
      rw [if_neg (by rw [hf]; simp)]
      simp [loopF, hi, hgm, codeD, hl, hf, -List.getElem?_map]
theorem f_code_fault (k : Nat) (C : List Ln) (M : Hh) (hC : ∀ x ∈ C, x.fine = true) (hl : C.length ≤ 1000000) : callF (k + 5) 14 [codeD C] M = .ok (faultD C) M := by
  show runF 3 (m_code_fault (callF (k + 4))) [codeD C] M = _
  refine run_ok ⟨[], ?_⟩ (faultD_pure C)
  unfold faultD
  by_cases h : 80 < C.length
  · have h' : (80 : Int) < (C.length : Int) := by omega
    simp [m_code_fault, start1, codeD, h, h']
  · have h' : ¬ (80 : Int) < (C.length : Int) := by omega
    have hL := cf_loop k C M hC C 0 NN none none rfl (by unfold NN; omega) (by omega)
    rw [if_neg h, List.append_nil, ← hL]
    simp [m_code_fault, start1, codeD, h', vEnumT]
def okC (C : List Ln) : Bool := decide (C.length ≤ 80) && C.all fun x => x.fits C.length
theorem bad1_ok (C : List Ln) (n : Nat) : ∀ (i : Nat) (r : List Ln), (r.all fun x => x.fits n) = true → bad1 C n i r = .non
  | _, [], _ => rfl
  | i, x :: r, h => by
    simp only [List.all_cons, Bool.and_eq_true] at h
    unfold bad1
    rw [if_pos h.1]
    exact bad1_ok C n (i + 1) r h.2
theorem bad1_bad (C : List Ln) (n : Nat) : ∀ (i : Nat) (r : List Ln), (r.all fun x => x.fits n) = false → ∃ j : Nat, bad1 C n i r = .int j
  | _, [], h => by simp at h
  | i, x :: r, h => by
    unfold bad1
    by_cases hx : x.fits n = true
    · rw [if_pos hx]
      refine bad1_bad C n (i + 1) r ?_
      simpa [hx] using h
    · rw [if_neg hx]
      exact ⟨i, rfl⟩
theorem fault_ok {C : List Ln} (h : okC C = true) : faultD C = .non := by
  simp only [okC, Bool.and_eq_true, decide_eq_true_eq] at h
  unfold faultD
  rw [if_neg (by omega)]
  exact bad1_ok _ _ _ _ h.2
theorem fault_bad {C : List Ln} (h : okC C = false) : faultD C = .str z_shape ∨ ∃ j : Nat, faultD C = .int j := by
  unfold faultD
  by_cases hl : 80 < C.length
  · rw [if_pos hl]; exact .inl rfl
  · rw [if_neg hl]
    refine .inr (bad1_bad _ _ _ _ ?_)
    have : C.length ≤ 80 := by omega
    simpa [okC, this] using h
theorem f_check_code (k : Nat) (C : List Ln) (M : Hh) (hC : ∀ x ∈ C, x.fine = true) (hl : C.length ≤ 1000000) : callF (k + 6) 16 [codeD C] M = if okC C then .ok .non M else .exc 39 [(0, .str z_code)] M := by
  show runF 1 (m_check_code (callF (k + 5))) [codeD C] M = _
  have h := f_code_fault k C M hC hl
  cases hf : okC C with
  | true => exact run_ok ⟨[], by simp [m_check_code, start1, h, fault_ok hf]⟩ rfl
  | false =>
    rcases fault_bad hf with e | ⟨j, e⟩
    · exact run_exc ⟨[], by simp [m_check_code, start1, h, e, errD]⟩ rfl
    · exact run_exc ⟨[], by simp [m_check_code, start1, h, e, errD]⟩ rfl
/-! ### format_code -/
def fmtL : Ln → List Nat
  | .doL n => joinD [32] [z_do, n]
  | .goL g => joinD [32] [z_go, figs g]
  | .un t g => z_unless_ ++ wr t ++ z__go_ ++ figs g
  | .stop => z_stop
def fmtC (C : List Ln) : List Nat := (C.map fun x => fmtL x ++ z_nl).flatten
noncomputable def bFmt (k : Nat) : SMs := (sIf (vTest (vOp opEq (vOp opIx (vVar 2) (vC (.int 0))) (vC (.str z_unless)))) (sExpr (vM "list" mAppend (vVar 1) (vCons (vOp opAdd (vOp opAdd (vOp opAdd (vC (.str z_unless_)) (vCallN 1 (callF k 7) (vCons (vOp opIx (vVar 2) (vC (.int 1))) (vNil)))) (vC (.str z__go_))) (vB fStr (vCons (vOp opIx (vVar 2) (vC (.int 2))) (vNil)))) (vNil)))) (sExpr (vM "list" mAppend (vVar 1) (vCons (vM "str" mJoin (vC (.str z_sp)) (vCons (vComp (vIterT (vVar 2)) (.one 3) (vYes) (vB fStr (vCons (vVar 3) (vNil))) [3]) (vNil))) (vNil)))))
theorem figs_all : (List.range 1000).all (fun g : Nat => decide ((figs (g : Int)).length ≤ 3) && isFigs (figs (g : Int)) && decide (figsVal (figs (g : Int)) = some (g : Int)) && (figs (g : Int)).all fun c => decide (48 ≤ c) && decide (c ≤ 57)) = true := by decide +kernel
theorem figs_fact {g : Nat} (h : g < 1000) : (figs (g : Int)).length ≤ 3 ∧ isFigs (figs (g : Int)) = true ∧ figsVal (figs (g : Int)) = some (g : Int) ∧ (∀ c ∈ figs (g : Int), 48 ≤ c ∧ c ≤ 57) := by
  have := List.all_eq_true.mp figs_all g (List.mem_range.mpr h)
  simp only [Bool.and_eq_true, decide_eq_true_eq, List.all_eq_true] at this
  exact ⟨this.1.1.1, this.1.1.2, this.1.2, fun c hc => this.2 c hc⟩
end Gm.K28

set_option Elab.async false
set_option linter.all false
set_option maxRecDepth 100000
set_option maxHeartbeats 1000000
set_option autoImplicit false
namespace Gm.K28
open Gm
open L2
theorem f_str_nat {g : Nat} (h : g < 1000) (M : Hh) : fStr [.int (g : Nat)] M = some (.str (figs g), M) := by
  have := small_log (n := (g : Int)) (by omega) (by omega)
  show (if (g : Int).natAbs.log2 < 1920 then _ else _) = _
  rw [if_pos this]
theorem f_str_str {s : List Nat} (M : Hh) : fStr [.str s] M = some (.str s, M) := rfl
theorem fmt_body (k : Nat) (x : Ln) (M G : Hh) (A : List D) (cd : D) (y : Option D) (h : x.fine = true) (hA : A.length ≤ 1000000) : ∃ G', bFmt (k + 25) [some cd, some (.loc M.length), some x.toD, y] (M ++ .lst A :: G) = .nx [some cd, some (.loc M.length), some x.toD, y] (M ++ .lst (A ++ [.str (fmtL x)]) :: G') := by
  have hA' : A.length < 16777216 := by omega
  have cm : ∀ (xs : List D) (ss : List (List Nat)), (xs.length ≤ 10) → xs.map (fun d => match d with | .int g => .str (figs g) | d => d) = ss.map D.str → (∀ d ∈ xs, (∃ s, d = .str s) ∨ ∃ g : Nat, g < 1000 ∧ d = .int g) → ∀ (env : Ev) (H : Hh), env.length = 4 →
      compF (fun i _ => some xs[i]?) (.one 3) vYes (vB fStr (vCons (vVar 3) vNil)) H.length (wipeE env [3]) NN 0 (H ++ [.lst []]) = .ok (.loc H.length) (H ++ [.lst (ss.map D.str)]) := by
    intro xs ss hl he hd env H hle
    rw [comp_map (items := xs) (fun d => match d with | .int g => .str (figs g) | d => d) (fun i M' => rfl) (by omega), he]
    intro d hm
    have hlen : 3 < (wipeE env [3]).length := by simp [wipeE, hle]
    refine ⟨(wipeE env [3]).set 3 (some d), by simp [bindT, hlen], fun M' => ?_⟩
    rcases hd d hm with ⟨s, rfl⟩ | ⟨g, hg, rfl⟩
    · simp [hlen, f_str_str]
    · simp [hlen, f_str_nat hg]
  cases x with
  | doL s =>
    have hn : isName s = true := h
    have c1 : (z_do == z_unless) = false := by decide
    have hh := cm [.str z_do, .str s] [z_do, s] (by simp) rfl (by simp) [some cd, some (.loc M.length), some (.tup [.str z_do, .str s]), y] (M ++ .lst A :: G) rfl
    have hsl := isName_len hn
    have zl : z_do.length = 2 := rfl
    have hj : ∀ H : Hh, mJoin (.str z_sp) [.loc H.length] (H ++ [.lst ([z_do, s].map D.str)]) = some (.str (joinD [32] [z_do, s]), H ++ [.lst ([z_do, s].map D.str)]) := fun H => by
      unfold mJoin
      simp only [itemsD_last, Option.bind_some, strs_map]
      rw [if_pos (by simp [zl, z_sp]; omega)]
      rfl
    have hj' := hj (M ++ .lst A :: G)
    refine ⟨G ++ [.lst ([z_do, s].map D.str)], ?_⟩
    simp at hh hj'
    simp [bFmt, Ln.toD, c1, hh, hj', tyM, mAppend, hA', fmtL]
  | goL g =>
    have hn : g < 1000 := by simpa [Ln.fine] using h
    have c1 : (z_go == z_unless) = false := by decide
    have hh := cm [.str z_go, .int g] [z_go, figs g] (by simp) rfl (by
      intro d hd
      simp only [List.mem_cons, List.not_mem_nil, or_false] at hd
      rcases hd with rfl | rfl
      · exact .inl ⟨_, rfl⟩
      · exact .inr ⟨g, hn, rfl⟩) [some cd, some (.loc M.length), some (.tup [.str z_go, .int g]), y] (M ++ .lst A :: G) rfl
    have hsl := (figs_fact hn).1
    have zl : z_go.length = 2 := rfl
    have hj : ∀ H : Hh, mJoin (.str z_sp) [.loc H.length] (H ++ [.lst ([z_go, figs g].map D.str)]) = some (.str (joinD [32] [z_go, figs g]), H ++ [.lst ([z_go, figs g].map D.str)]) := fun H => by
      unfold mJoin
      simp only [itemsD_last, Option.bind_some, strs_map]
      rw [if_pos (by simp [zl, z_sp]; omega)]
      rfl
    have hj' := hj (M ++ .lst A :: G)
    refine ⟨G ++ [.lst ([z_go, figs g].map D.str)], ?_⟩
    simp at hh hj'
    simp [bFmt, Ln.toD, c1, hh, hj', tyM, mAppend, hA', fmtL]
  | stop =>
    have c1 : (z_stop == z_unless) = false := by decide
    have hh := cm [.str z_stop] [z_stop] (by simp) rfl (by simp) [some cd, some (.loc M.length), some (.tup [.str z_stop]), y] (M ++ .lst A :: G) rfl
    have hj : ∀ H : Hh, mJoin (.str z_sp) [.loc H.length] (H ++ [.lst ([z_stop].map D.str)]) = some (.str z_stop, H ++ [.lst ([z_stop].map D.str)]) := fun H => by
      unfold mJoin
      simp only [itemsD_last, Option.bind_some, strs_map]
      rw [if_pos (by decide)]
      rfl
    have hj' := hj (M ++ .lst A :: G)
    refine ⟨G ++ [.lst ([z_stop].map D.str)], ?_⟩
    simp at hh hj'
    simp [bFmt, Ln.toD, c1, hh, hj', tyM, mAppend, hA', fmtL]
  | un t g =>
    simp only [Ln.fine, Bool.and_eq_true, decide_eq_true_eq] at h
    have hft := f_format_test (k + 20) t (M ++ .lst A :: G) h.1.1.1 h.1.2 h.1.1.2 (by omega)
    have hw := wr_len t h.1.1.1
    have hsl := (figs_fact h.2).1
    have z1 : z_unless_.length = 7 := rfl
    have z2 : z__go_.length = 4 := rfl
    have a1 : ∀ H : Hh, opAdd (.str z_unless_) (.str (wr t)) H = some (.str (z_unless_ ++ wr t), H) := fun H => op_add_str (by omega)
    have a2 : ∀ H : Hh, opAdd (.str (z_unless_ ++ wr t)) (.str z__go_) H = some (.str (z_unless_ ++ wr t ++ z__go_), H) := fun H => op_add_str (by rw [List.length_append]; omega)
    have a3 : ∀ H : Hh, opAdd (.str (z_unless_ ++ wr t ++ z__go_)) (.str (figs g)) H = some (.str (z_unless_ ++ wr t ++ z__go_ ++ figs g), H) := fun H => op_add_str (by rw [List.length_append, List.length_append]; omega)
    refine ⟨G, ?_⟩
    simp only [List.append_assoc] at a1 a2 a3
    simp [bFmt, Ln.toD, hft, a1, a2, a3, f_str_nat h.2, tyM, mAppend, hA', fmtL]
theorem fmt_loop (k : Nat) (C : List Ln) (M : Hh) (cd : D) (hC : ∀ x ∈ C, x.fine = true) (hl : C.length ≤ 100000) : ∀ (r : List Ln) (i n : Nat) (A : List Ln) (G : Hh) (x y : Option D), C.drop i = r → r.length < n → i ≤ C.length → A.length ≤ i →
    ∃ G' x' y', loopF (fun i _ => some (C.map Ln.toD)[i]?) (gName 2) (bFmt (k + 25)) n i [some cd, some (.loc M.length), x, y] (M ++ .lst (A.map fun z => .str (fmtL z)) :: G) = .nx [some cd, some (.loc M.length), x', y'] (M ++ .lst ((A ++ r).map fun z => .str (fmtL z)) :: G') := by
  intro r
  induction r with
  | nil =>
    intro i n A G x y hd hn hi hA
    obtain ⟨n, rfl⟩ : ∃ j, n = j + 1 := ⟨n - 1, by omega⟩
    have : i = C.length := by
      have := congrArg List.length hd
      simp at this; omega
    subst this
    exact ⟨G, x, y, by simp [loopF]⟩
  | cons z r ih =>
    intro i n A G x y hd hn hi hA
    obtain ⟨n, rfl⟩ : ∃ j, n = j + 1 := ⟨n - 1, by omega⟩
    have hlt : i < C.length := by
      have := congrArg List.length hd
      simp at this; omega
    have hg : C[i]? = some z := by
      have : (C.drop i)[0]? = some z := by rw [hd]; rfl
      simpa using this
    have hd2 : C.drop (i + 1) = r := by
      have : (C.drop i).tail = r := by rw [hd]; rfl
      rw [← this]; simp
    have hgm : (C.map Ln.toD)[i]? = some z.toD := by rw [List.getElem?_map, hg]; rfl
    obtain ⟨G1, hb⟩ := fmt_body k z M G (A.map fun z => .str (fmtL z)) cd y (hC z (List.mem_of_getElem? hg)) (by simp; omega)
    obtain ⟨G2, x2, y2, h⟩ := ih (i + 1) n (A ++ [z]) G1 (some z.toD) y hd2 (by simp at hn; omega) (by omega) (by simp; omega)
    refine ⟨G2, x2, y2, ?_⟩
    rw [List.map_append] at h
    simp only [List.append_assoc, List.cons_append, List.nil_append, List.map_cons, List.map_nil] at h
    rw [← h]
    simp only [loopF, hgm, es_name, List.set_cons_succ, List.set_cons_zero, RS.bind_nx, hb]
theorem join_nil : ∀ l : List (List Nat), joinD [] l = l.flatten
  | [] => rfl
  | [x] => by simp [joinD]
  | x :: y :: r => by
    have := join_nil (y :: r)
    simp only [joinD, this]; simp
theorem fmtL_len {x : Ln} (h : x.fine = true) : ∃ b, (fmtL x).length ≤ b ∧ b = match x with | .un t _ => 8 * t.size + 14 | _ => 14 := by
  refine ⟨_, ?_, rfl⟩
  cases x with
  | doL s =>
    have := isName_len h
    have zl : z_do.length = 2 := rfl
    simp [fmtL, joinD, zl]; omega
  | goL g =>
    have hn : g < 1000 := by simpa [Ln.fine] using h
    have := (figs_fact hn).1
    have zl : z_go.length = 2 := rfl
    simp [fmtL, joinD, zl]; omega
  | stop => show z_stop.length ≤ 14; decide
  | un t g =>
    simp only [Ln.fine, Bool.and_eq_true, decide_eq_true_eq] at h
    have hw := wr_len t h.1.1.1
    have hsl := (figs_fact h.2).1
    have z1 : z_unless_.length = 7 := rfl
    have z2 : z__go_.length = 4 := rfl
    simp only [fmtL, List.length_append]; omega
theorem f_format_code (k : Nat) (C : List Ln) (M : Hh) (hC : ∀ x ∈ C, x.fine = true) (hl : C.length ≤ 100000) (ho : okC C = true) (hs : (fmtC C).length ≤ 1000000) : callF (k + 26) 17 [codeD C] M = .ok (.str (fmtC C)) M := by
  show runF 4 (m_format_code (callF (k + 25))) [codeD C] M = _
  refine run_ok ?_ rfl
  have hcc := f_check_code (k + 19) C M hC (by omega)
  rw [if_pos ho] at hcc
  obtain ⟨G, x, y, hL⟩ := fmt_loop k C M (codeD C) hC hl C 0 NN [] [] none none rfl (by unfold NN; omega) (by omega) (by simp)
  simp only [List.nil_append, List.map_nil] at hL
  have one : ∀ z ∈ C, (fmtL z).length + 1 ≤ (fmtC C).length := by
    intro z hz
    have : (fmtL z ++ z_nl).length ≤ (C.map fun x => fmtL x ++ z_nl).flatten.length := by
      rw [List.length_flatten]
      exact sum_mem (List.mem_map.mpr ⟨z, hz, rfl⟩)
    rw [List.length_append] at this
    exact this
  have sm : ((C.map fun x => fmtL x ++ z_nl).map List.length).sum = (fmtC C).length := by
    unfold fmtC; rw [List.length_flatten]
  have hc : ∀ (H : Hh) (env : Ev), env.length = 4 → H[M.length]? = some (.lst (C.map fun z => .str (fmtL z))) → compF (itLoc M.length) (.one 2) vYes (vOp opAdd (vVar 2) (vC (.str z_nl))) H.length (wipeE env [2]) NN 0 (H ++ [.lst []]) = .ok (.loc H.length) (H ++ [.lst ((C.map fun x => fmtL x ++ z_nl).map D.str)]) := by
    intro H env he hH
    rw [compLm (items := C.map fun z => .str (fmtL z)) (fun d => match d with | .str s => .str (s ++ z_nl) | d => d) (fun i acc => itLoc_app hH i acc) (by simp; omega)]
    · simp
    · intro d hd
      obtain ⟨z, hz, rfl⟩ := List.mem_map.mp hd
      have hlen : 2 < (wipeE env [2]).length := by simp [wipeE, he]
      refine ⟨(wipeE env [2]).set 2 (some (.str (fmtL z))), by simp [bindT, hlen], fun acc => ?_⟩
      have h1 := one z hz
      have zl : z_nl.length = 1 := rfl
      have a1 := op_add_str (M := H ++ [.lst acc]) (a := fmtL z) (b := z_nl) (by omega)
      simp [hlen, a1]
  have hj : ∀ H : Hh, mJoin (.str z_empty) [.loc H.length] (H ++ [.lst ((C.map fun x => fmtL x ++ z_nl).map D.str)]) = some (.str (fmtC C), H ++ [.lst ((C.map fun x => fmtL x ++ z_nl).map D.str)]) := fun H => by
    unfold mJoin
    simp only [itemsD_last, Option.bind_some, strs_map]
    rw [if_pos (by rw [sm]; simp [z_empty]; omega)]
    show some (D.str (joinD [] _), _) = _
    rw [join_nil]; rfl
  have hc' := hc (M ++ .lst (C.map fun z => .str (fmtL z)) :: G) [some (codeD C), some (.loc M.length), x, y] rfl (by simp)
  have hj' := hj (M ++ .lst (C.map fun z => .str (fmtL z)) :: G)
  refine ⟨.lst (C.map fun z => .str (fmtL z)) :: (G ++ [.lst ((C.map fun x => fmtL x ++ z_nl).map D.str)]), ?_⟩
  have e0 : m_format_code (callF (k + 25)) = sSeq (sExpr (vCallN 1 (callF (k + 25) 16) (vCons (vVar 0) (vNil)))) (sSeq (sAsg (vLst (vNil)) (gName 1)) (sSeq (sFor (vIterT (vVar 0)) (gName 2) (bFmt (k + 25))) (sRet (vM "str" mJoin (vC (.str z_empty)) (vCons (vComp (vIter (vVar 1)) (.one 2) (vYes) (vOp opAdd (vVar 2) (vC (.str z_nl))) [2]) (vNil)))))) := rfl
  rw [e0, start1]
  simp only [mid_app, List.map_map] at hc' hj'
  simp only [codeD] at hL hcc hc' ⊢
  simp at hc' hj'
  simp [hcc, hL, -List.getElem?_map, hc', hj', tyM]
end Gm.K28

set_option Elab.async false
set_option linter.all false
set_option maxRecDepth 100000
set_option maxHeartbeats 1000000
set_option autoImplicit false
namespace Gm.K28
open Gm
open L2
/-! ### read_code -/
theorem told_len (L : List Nat) (a b : Nat) : (joinD [32] (((splitD 32 L).drop a).take b)).length ≤ L.length + 1 := by
  have h1 := join_len [32] (((splitD 32 L).drop a).take b)
  have h2 := sum_sub (List.Sublist.trans (List.take_sublist b ((splitD 32 L).drop a)) (List.drop_sublist a (splitD 32 L)))
  have h3 := split_sum 32 L
  have h4 : (((splitD 32 L).drop a).take b).length ≤ (splitD 32 L).length := by simp; omega
  simp only [List.length_singleton] at h1
  omega
theorem lineP_fine {L : List Nat} {x : Ln} (h : lineP L = some x) (hl : L.length ≤ 100000) : x.fine = true := by
  unfold lineP at h
  simp only [] at h
  split at h
  · cases h; rfl
  · split at h
    · next e =>
      cases h
      simp only [Bool.and_eq_true] at e
      exact e.2
    · split at h
      · next e =>
        cases h
        simp only [Bool.and_eq_true] at e
        simp [Ln.fine, (figs_of e.2).2.1]
      · split at h
        · next e =>
          simp only [Bool.and_eq_true] at e
          split at h
          · next t a hr =>
            split at h
            · cases h
              obtain ⟨h1, h2, h3⟩ := read_ok hr
              have := told_len L 1 ((splitD 32 L).length - 3)
              have : t.size ≤ 1000000 := by omega
              simp [Ln.fine, (figs_of e.2).2.1, h1, h2, this]
            · cases h
          · cases h
        · cases h
inductive LP where
  | ok (C : List Ln)
  | err (i : Nat)
def linesP : List (List Nat) → Nat → LP
  | [], _ => .ok []
  | L :: r, i => match lineP L with
    | none => .err i
    | some x => match linesP r (i + 1) with
      | .ok C => .ok (x :: C)
      | .err j => .err j
inductive RC where
  | ok (C : List Ln)
  | txt (p : Nat)
  | cod
def lastW (s : List Nat) : List Nat := ((splitD 10 s)[(splitD 10 s).length - 1]?).getD []
def readC (s : List Nat) : RC := match linesP (splitD 10 s).dropLast 0 with
  | .err i => .txt i
  | .ok C => if lastW s = [] then (if okC C then .ok C else .cod) else .txt ((splitD 10 s).length - 1)
theorem linesP_fine : ∀ (r : List (List Nat)) (i : Nat) (C : List Ln), linesP r i = .ok C → (∀ L ∈ r, L.length ≤ 100000) → (∀ x ∈ C, x.fine = true) ∧ C.length = r.length
  | [], i, C, h, _ => by cases h; simp
  | L :: r, i, C, h, hl => by
    unfold linesP at h
    split at h
    · cases h
    · next x hx =>
      split at h
      · next C' hC =>
        cases h
        obtain ⟨h1, h2⟩ := linesP_fine r (i + 1) C' hC fun L hL => hl L (List.mem_cons_of_mem _ hL)
        refine ⟨fun y hy => ?_, by simp [h2]⟩
        rcases List.mem_cons.mp hy with rfl | hy
        · exact lineP_fine hx (hl L (by simp))
        · exact h1 y hy
      · cases h
def rcH (M : Hh) (W S : List (List Nat)) (acc : List Ln) : Hh := M ++ [.lst (W.map D.str), .lst (acc.map Ln.toD), .lst (S.map D.str)]
section
variable (M : Hh) (W S : List (List Nat)) (acc : List Ln)
theorem rc0 : (rcH M W S acc)[M.length]? = some (.lst (W.map D.str)) := by unfold rcH; simp
theorem rc1 : (rcH M W S acc)[M.length + 1]? = some (.lst (acc.map Ln.toD)) := by
  unfold rcH; rw [List.getElem?_append_right (by omega), show M.length + 1 - M.length = 1 by omega]; rfl
theorem rc2 : (rcH M W S acc)[M.length + 2]? = some (.lst (S.map D.str)) := by
  unfold rcH; rw [List.getElem?_append_right (by omega), show M.length + 2 - M.length = 2 by omega]; rfl
theorem rc_set (x : Ln) : (rcH M W S acc).set (M.length + 1) (.lst (acc.map Ln.toD ++ [x.toD])) = rcH M W S (acc ++ [x]) := by
  unfold rcH
  rw [List.set_append_right _ _ (by omega), show M.length + 1 - M.length = 1 by omega]
  simp
end
noncomputable def jEn (l : Nat) : IterD := fun i M => match M[l]? with
  | some (.lst xs) => some (xs[i]?.map fun d => .tup [.int (i : Int), d])
  | _ => none
noncomputable def bRc (k : Nat) : SMs := (sSeq (sAsg (vCallN 1 (callF k 19) (vCons (vVar 4) (vNil))) (gName 5))
    (sSeq (sIf (vTest (vOp opIs (vVar 5) (vC .non))) (sRaise 40 1 [(1, 0)] (vCons (vVar 3) (vNil))) (sNil))
    (sExpr (vM "list" mAppend (vVar 2) (vCons (vVar 5) (vNil))))))
noncomputable def gRc : SMg := gTup 2 (gCons (gName 3) (gCons (gName 4) (gNil)))
theorem is_ln {x : Ln} {M : Hh} : opIs x.toD .non M = some (.bl false, M) := by cases x <;> rfl
theorem rc_loop (k : Nat) (M : Hh) (W S : List (List Nat)) (sd : D) (hS : ∀ L ∈ S, L.length ≤ 100000) (hl : S.length ≤ 1000000) : ∀ (r : List (List Nat)) (i n : Nat) (acc : List Ln) (x y z : Option D), S.drop i = r → r.length < n → i ≤ S.length → acc.length ≤ i →
    ∃ x' y' z' env acc', loopF (jEn (M.length + 2)) gRc (bRc (k + 37)) n i [some sd, some (.loc M.length), some (.loc (M.length + 1)), x, y, z] (rcH M W S acc) = match linesP r i with
      | .ok C => .nx [some sd, some (.loc M.length), some (.loc (M.length + 1)), x', y', z'] (rcH M W S (acc ++ C))
      | .err j => .exc 40 [(1, .int j)] env (rcH M W S acc') := by
  intro r
  induction r with
  | nil =>
    intro i n acc x y z hd hn hi hA
    obtain ⟨n, rfl⟩ : ∃ j, n = j + 1 := ⟨n - 1, by omega⟩
    have : i = S.length := by
      have := congrArg List.length hd
      simp at this; omega
    subst this
    exact ⟨x, y, z, [], [], by simp [loopF, jEn, rc2, linesP]⟩
  | cons L r ih =>
    intro i n acc x y z hd hn hi hA
    obtain ⟨n, rfl⟩ : ∃ j, n = j + 1 := ⟨n - 1, by omega⟩
    have hlt : i < S.length := by
      have := congrArg List.length hd
      simp at this; omega
    have hg : S[i]? = some L := by
      have : (S.drop i)[0]? = some L := by rw [hd]; rfl
      simpa using this
    have hd2 : S.drop (i + 1) = r := by
      have : (S.drop i).tail = r := by rw [hd]; rfl
      rw [← this]; simp
    have hgm : (S.map D.str)[i]? = some (.str L) := by rw [List.getElem?_map, hg]; rfl
    have hf := fun H : Hh => f_line_of k L H (hS L (List.mem_of_getElem? hg))
    cases hx : lineP L with
    | none =>
      refine ⟨x, y, z, [some sd, some (.loc M.length), some (.loc (M.length + 1)), some (.int i), some (.str L), some .non], acc, ?_⟩
      simp [loopF, jEn, gRc, bRc, rc2, hgm, linesP, hf, hx, optL, errD, -List.getElem?_map]
    | some v =>
      obtain ⟨x', y', z', env, acc', h⟩ := ih (i + 1) n (acc ++ [v]) (some (.int i)) (some (.str L)) (some v.toD) hd2 (by simp at hn; omega) (by omega) (by simp; omega)
      refine ⟨x', y', z', env, acc', ?_⟩
      have hacc : acc.length < 16777216 := by omega
      have e1 : linesP (L :: r) i = match linesP r (i + 1) with
          | .ok C => .ok (v :: C)
          | .err j => .err j := by conv => lhs; unfold linesP
                                   rw [hx]
      have e2 : loopF (jEn (M.length + 2)) gRc (bRc (k + 37)) (n + 1) i [some sd, some (.loc M.length), some (.loc (M.length + 1)), x, y, z] (rcH M W S acc) = loopF (jEn (M.length + 2)) gRc (bRc (k + 37)) n (i + 1) [some sd, some (.loc M.length), some (.loc (M.length + 1)), some (.int i), some (.str L), some v.toD] (rcH M W S (acc ++ [v])) := by
        conv => lhs; unfold loopF
        have j0 : jEn (M.length + 2) i (rcH M W S acc) = some (some (.tup [.int (i : Int), .str L])) := by simp [jEn, rc2, hgm, -List.getElem?_map]
        rw [j0]
        simp [gRc, bRc, hf, hx, optL, is_ln, tyM, rc1, mAppend, hacc, rc_set]
      rw [e2, h, e1]
      cases linesP r (i + 1) with
      | ok C => simp
      | err j => rfl
def RC.res (M : Hh) : RC → Res D
  | .ok C => .ok (codeD C) M
  | .txt p => .exc 40 [(1, .int p)] M
  | .cod => .exc 39 [(0, .str z_code)] M
theorem rcH_eq (M : Hh) (W S : List (List Nat)) (acc : List Ln) : M ++ [.lst (W.map D.str), .lst (acc.map Ln.toD), .lst (S.map D.str)] = rcH M W S acc := rfl
theorem f_read_code (k : Nat) (s : List Nat) (M : Hh) (hs : s.length ≤ 100000) : callF (k + 38) 18 [.str s] M = (readC s).res M := by
  show runF 6 (m_read_code (callF (k + 37))) [.str s] M = _
  obtain ⟨W, hW⟩ : ∃ W, W = splitD 10 s := ⟨_, rfl⟩
  obtain ⟨S, hSe⟩ : ∃ S, S = W.dropLast := ⟨_, rfl⟩
  have hsum := split_sum 10 s
  have hmem : ∀ L ∈ splitD 10 s, L.length ≤ 100000 := fun L hL => Nat.le_trans (split_mem hL) hs
  obtain ⟨w0, r0, hWc⟩ := splitD_cons 10 s
  have hpos : 1 ≤ W.length := by rw [hW, hWc]; simp
  have hSm : ∀ L ∈ S, L.length ≤ 100000 := fun L hL => hmem L (by rw [← hW]; rw [hSe] at hL; exact (List.dropLast_sublist W).subset hL)
  have hSl : S.length ≤ 1000000 := by rw [hSe, List.length_dropLast]; rw [← hW] at hsum; omega
  have hsp : ∀ M' : Hh, mSplit (.str s) [.str z_nl] M' = some (.loc M'.length, M' ++ [.lst (W.map D.str)]) := fun M' => by
    show (if s.length + 2 ≤ 16777216 ∧ 10 < 256 then _ else _) = _
    rw [if_pos ⟨by omega, by decide⟩, hW]
  have hcut : cutD (W.map D.str) none (some (-1)) = S.map D.str := by
    unfold cutD HT.sIx
    simp only [List.length_map, if_pos (show (-1 : Int) < 0 by decide), List.drop_zero, show ((-1 : Int) + (W.length : Int)).toNat = W.length - 1 by omega, Nat.sub_zero]
    rw [hSe, List.dropLast_eq_take, List.map_take]
  have hsl : slD (.loc M.length) none (some (-1)) (M ++ [.lst (W.map D.str), .lst []]) = some (.loc (M.length + 2), rcH M W S []) := by
    simp [slD, hcut, rcH]
  obtain ⟨wl, hwl⟩ : ∃ w, W[W.length - 1]? = some w := ⟨W[W.length - 1], List.getElem?_eq_getElem (by omega)⟩
  have hlast : lastW s = wl := by unfold lastW; rw [← hW, hwl]; rfl
  have hlx : ∀ acc, opIx (.loc M.length) (.int (-1)) (rcH M W S acc) = some (.str wl, rcH M W S acc) := fun acc => by
    have e : atI (W.map D.str) (-1) = some (.str wl) := by
      rw [show (-1 : Int) = -((1 : Nat) : Int) from rfl, atI_neg _ 1 (by omega) (by simp; omega), List.length_map, List.getElem?_map, hwl]; rfl
    simp [opIx, rc0, e]
  obtain ⟨x', y', z', env, acc', hL⟩ := rc_loop k M W S (.str s) hSm hSl S 0 NN [] none none none rfl (by unfold NN; omega) (by omega) (by simp)
  have e0 : m_read_code (callF (k + 37)) = sSeq (sIf (vNot (vTru (vIsi .str (vVar 0)))) (sRaise 39 1 [(0, 0)] (vCons (vC (.str z_text)) (vNil))) (sNil))
    (sSeq (sPar 1 2 (vM "str" mSplit (vVar 0) (vCons (vC (.str z_nl)) (vNil))) (vLst (vNil)))
    (sSeq (sFor (vEnum (vSl (vVar 1) (vNo) (vPart (vNeg (vC (.int 1)))))) gRc (bRc (k + 37)))
    (sSeq (sIf (vTest (vOp opNe (vOp opIx (vVar 1) (vNeg (vC (.int 1)))) (vC (.str z_empty)))) (sRaise 40 1 [(1, 0)] (vCons (vOp opSub (vB fLen (vCons (vVar 1) (vNil))) (vC (.int 1))) (vNil))) (sNil))
    (sSeq (sExpr (vCallN 1 (callF (k + 37) 16) (vCons (vB fTuple (vCons (vVar 2) (vNil))) (vNil))))
    (sRet (vB fTuple (vCons (vVar 2) (vNil)))))))) := rfl
  have hen : ∀ env : Ev, env[1]? = some (some (.loc M.length)) → vEnum (vSl (vVar 1) (vNo) (vPart (vNeg (vC (.int 1))))) env (M ++ [.lst (W.map D.str), .lst []]) = .ok (jEn (M.length + 2)) (rcH M W S []) := by
    intro env he
    simp [vEnum, vNo, he, hsl, rc2]
    rfl
  rw [e0]
  unfold readC
  rw [← hW, ← hSe, hlast]
  cases hl : linesP S 0 with
  | err j =>
    rw [hl] at hL
    refine run_exc ⟨[.lst (W.map D.str), .lst (acc'.map Ln.toD), .lst (S.map D.str)], ?_⟩ rfl
    rw [rcH_eq, start1]
    simp [tyM, hsp, hen, hL]
  | ok C =>
    rw [hl] at hL
    simp only [List.nil_append] at hL
    obtain ⟨hC, hCl⟩ := linesP_fine _ _ _ hl hSm
    have hft : fTuple [.loc (M.length + 1)] (rcH M W S C) = some (codeD C, rcH M W S C) := by simp [fTuple, itemsD, rc1, codeD]
    have hck := f_check_code (k + 31) C (rcH M W S C) hC (by omega)
    have hln : fLen [.loc M.length] (rcH M W S C) = some (.int W.length, rcH M W S C) := by simp [fLen, rc0]
    by_cases hw : wl = []
    · have hw' : (wl == z_empty) = true := by rw [hw]; rfl
      simp only [if_pos hw]
      cases ho : okC C with
      | true =>
        rw [ho] at hck
        refine run_ok ⟨[.lst (W.map D.str), .lst (C.map Ln.toD), .lst (S.map D.str)], ?_⟩ (code_pure C)
        rw [rcH_eq, start1]
        simp [tyM, hsp, hen, hL, hlx, hw', hft, hck]
      | false =>
        rw [ho] at hck
        refine run_exc ⟨[.lst (W.map D.str), .lst (C.map Ln.toD), .lst (S.map D.str)], ?_⟩ rfl
        rw [rcH_eq, start1]
        simp [tyM, hsp, hen, hL, hlx, hw', hft, hck]
    · have hw' : (wl == z_empty) = false := by simpa [z_empty] using hw
      simp only [if_neg hw]
      have e1 : ((W.length : Int) - 1) = ((W.length - 1 : Nat) : Int) := by omega
      refine run_exc ⟨[.lst (W.map D.str), .lst (C.map Ln.toD), .lst (S.map D.str)], ?_⟩ rfl
      rw [rcH_eq, start1]
      simp [tyM, hsp, hen, hL, hlx, hw', hln, e1, errD]
end Gm.K28

set_option Elab.async false
set_option linter.all false
set_option maxRecDepth 100000
set_option maxHeartbeats 1000000
set_option autoImplicit false
namespace Gm.K28
open Gm
open L2
/-! ### _law_read, _law_is_refused -/
def RC.told : RC → D
  | .ok C => .tup [.bl true, codeD C]
  | .txt p => .tup [.bl false, .int p]
  | .cod => .tup [.bl false, .str z_code]
theorem told_pure (r : RC) : pureD r.told = true := by
  cases r with
  | ok C => have := code_pure C; simp [RC.told, pureD, pureDs, this]
  | txt p => rfl
  | cod => rfl
theorem f_law_read (k : Nat) (s : List Nat) (M : Hh) (hs : s.length ≤ 100000) : callF (k + 39) 28 [.str s] M = .ok (readC s).told M := by
  show runF 2 (m__law_read (callF (k + 38))) [.str s] M = _
  refine run_ok ⟨[], ?_⟩ (told_pure _)
  have h := f_read_code k s M hs
  cases hr : readC s with
  | ok C => simp [m__law_read, start1, h, hr, RC.res, RC.told]
  | txt p => simp [m__law_read, start1, h, hr, RC.res, RC.told, handleD, mtOf, List.lookup, slotOk, unsl, vXf]
  | cod => simp [m__law_read, start1, h, hr, RC.res, RC.told, handleD, mtOf, List.lookup, slotOk, unsl, vXf]
theorem f_law_read_non (k : Nat) (M : Hh) : callF (k + 2) 28 [.non] M = .ok (.tup [.bl false, .str z_text]) M := by
  have h : callF (k + 1) 18 [.non] M = .exc 39 [(0, .str z_text)] M := by
    show runF 6 (m_read_code (callF k)) [.non] M = _
    exact run_exc ⟨[], by simp [m_read_code, start1, errD]⟩ rfl
  show runF 2 (m__law_read (callF (k + 1))) [.non] M = _
  refine run_ok ⟨[], ?_⟩ rfl
  simp [m__law_read, start1, h, handleD, mtOf, List.lookup, slotOk, unsl, vXf]
theorem split_no {c : Nat} : ∀ {l : List Nat}, c ∉ l → splitD c l = [l]
  | [], _ => rfl
  | x :: r, h => by
    have h1 : ¬ x = c := fun e => h (by simp [e])
    have h2 := split_no (l := r) fun hc => h (List.mem_cons_of_mem _ hc)
    unfold splitD
    rw [if_neg h1, h2]
theorem split_app {c : Nat} : ∀ {l r : List Nat}, c ∉ l → splitD c (l ++ c :: r) = l :: splitD c r
  | [], r, _ => by
    show splitD c (c :: r) = _
    conv => lhs; unfold splitD
    rw [if_pos rfl]
  | x :: l, r, h => by
    have h1 : ¬ x = c := fun e => h (by simp [e])
    have h2 := split_app (l := l) (r := r) fun hc => h (List.mem_cons_of_mem _ hc)
    show splitD c (x :: (l ++ c :: r)) = _
    conv => lhs; unfold splitD
    rw [if_neg h1, h2]
theorem readC_line {L : List Nat} (h : 10 ∉ L) : readC (L ++ z_nl) = match lineP L with
    | none => .txt 0
    | some x => if okC [x] then .ok [x] else .cod := by
  have e : splitD 10 (L ++ z_nl) = [L, []] := split_app h
  unfold readC lastW
  rw [e]
  simp only [List.dropLast_cons₂, List.dropLast_singleton]
  unfold linesP
  cases lineP L with
  | none => rfl
  | some x => simp [linesP]
theorem f_refused (k : Nat) (L : List Nat) (M : Hh) (hl : L.length ≤ 90000) (h : 10 ∉ L) : callF (k + 40) 29 [.str L] M = .ok (.bl (lineP L).isNone) M := by
  show runF 2 (m__law_is_refused (callF (k + 39))) [.str L] M = _
  refine run_ok ⟨[], ?_⟩ rfl
  have zl : z_nl.length = 1 := rfl
  have a1 : opAdd (.str L) (.str z_nl) M = some (.str (L ++ z_nl), M) := op_add_str (by omega)
  have hr := f_law_read k (L ++ z_nl) M (by rw [List.length_append]; omega)
  rw [readC_line h] at hr
  have heq : ∀ a b c d : D, pureD a = true → pureD b = true → pureD c = true → pureD d = true → dep c = 0 → dep d = 0 → opEq (.tup [a, b]) (.tup [c, d]) M = some (.bl (deq a c && deq b d), M) := by
    intro a b c d ha hb hc hd h1 h2
    have hm : min (max (dep a) (dep b) + 1) 1 ≤ 150 := Nat.le_trans (Nat.min_le_right _ _) (by decide)
    simp [opEq, seeD, pureD, pureDs, ha, hb, hc, hd, dep, deps, h1, h2, hm, deq, deqs]
  cases hx : lineP L with
  | none =>
    rw [hx] at hr
    have h2 := heq (.bl false) (.int 0) (.bl false) (.int 0) rfl rfl rfl rfl rfl rfl
    simp [m__law_is_refused, start1, a1, hr, RC.told, h2, deq]
  | some x =>
    rw [hx] at hr
    cases ho : okC [x] with
    | true =>
      simp only [ho] at hr
      have h2 := heq (.bl true) (codeD [x]) (.bl false) (.int 0) rfl (code_pure _) rfl rfl rfl rfl
      simp [m__law_is_refused, start1, a1, hr, RC.told, h2, deq]
    | false =>
      simp only [ho] at hr
      have h2 := heq (.bl false) (.str z_code) (.bl false) (.int 0) rfl rfl rfl rfl rfl rfl
      simp [m__law_is_refused, start1, a1, hr, RC.told, h2, deq]
/-! ### _law_like -/
mutual
def likeOk : D → Bool
  | .tup xs => decide (xs.length ≤ 1000000) && likeOks xs
  | .str s => decide (s.length ≤ 1000000)
  | .non => true
  | .bl _ => true
  | .int _ => true
  | _ => false
def likeOks : List D → Bool
  | [] => true
  | x :: xs => likeOk x && likeOks xs
end
theorem likeOks_mem : ∀ {xs : List D} {x : D}, likeOks xs = true → x ∈ xs → likeOk x = true
  | y :: xs, x, h, hm => by
    simp only [likeOks, Bool.and_eq_true] at h
    rcases List.mem_cons.mp hm with rfl | hm
    · exact h.1
    · exact likeOks_mem h.2 hm
theorem deps_mem : ∀ {xs : List D} {x : D}, x ∈ xs → dep x ≤ deps xs
  | y :: xs, x, hm => by
    simp only [deps]
    rcases List.mem_cons.mp hm with rfl | hm
    · omega
    · have := deps_mem hm; omega
theorem like_step (xs : List D) (M : Hh) (V : SMo D) (R : SMs) (he : V [some (.tup xs), some (.tup xs), none] M = .ok (.loc M.length) (M ++ [.lst []])) (hq : opEq (.loc M.length) (.loc (M.length + 1)) (M ++ [.lst [], .lst []]) = some (.bl true, M ++ [.lst [], .lst []])) :
    (sSeq (sIf (vTru (vIsi .tuple (vVar 1))) (sSeq (sIf (vOr (vNot (vTru (vIsi .tuple (vVar 0)))) (vTest (vOp opNe (vB fLen (vCons (vVar 0) (vNil))) (vB fLen (vCons (vVar 1) (vNil)))))) (sRet (vC (.bl false))) (sNil)) (sRet (vOp opEq V (vLst (vNil))))) (sNil)) R [some (.tup xs), some (.tup xs), none] M).res = .ok (.bl true) (M ++ [.lst [], .lst []]) := by
  simp [he, hq]
theorem like_c (k : Nat) (xs : List D) (M : Hh) (hl : xs.length ≤ 1000000) (h : ∀ x ∈ xs, ∀ M' : Hh, callF k 25 [x, x] M' = .ok (.bl true) M') : compF (itR 0 xs.length) (.one 2) (vNot (vTru (vCallN 2 (callF k 25) (vCons (vOp opIx (vVar 0) (vVar 2)) (vCons (vOp opIx (vVar 1) (vVar 2)) (vNil)))))) (vC (.int 1)) M.length (wipeE [some (.tup xs), some (.tup xs), none] [2]) NN 0 (M ++ [.lst []]) = .ok (.loc M.length) (M ++ [.lst []]) := by
  have := compL (M := M) (J := itR 0 xs.length) (sh := .one 2) (t := vNot (vTru (vCallN 2 (callF k 25) (vCons (vOp opIx (vVar 0) (vVar 2)) (vCons (vOp opIx (vVar 1) (vVar 2)) (vNil)))))) (e := vC (.int 1)) (env := wipeE [some (.tup xs), some (.tup xs), none] [2]) (items := (List.range xs.length).map fun i => .int (i : Nat)) (fun _ => false) (fun _ => .int 1) (by
    intro i acc
    unfold itR
    by_cases hi : i < xs.length
    · simp [hi]
    · simp [hi]) (by simp; omega) (by
    intro d hd
    obtain ⟨i, hi, rfl⟩ := List.mem_map.mp hd
    have hi := List.mem_range.mp hi
    have hg : xs[i]? = some xs[i] := List.getElem?_eq_getElem hi
    refine ⟨[some (.tup xs), some (.tup xs), some (.int i)], rfl, fun acc => ⟨?_, fun h => by cases h⟩⟩
    simp [op_ix_nat, hg, h xs[i] (List.getElem_mem hi)])
  rw [this]
  simp
theorem like_q (M : Hh) : opEq (.loc M.length) (.loc (M.length + 1)) (M ++ [.lst [], .lst []]) = some (.bl true, M ++ [.lst [], .lst []]) := by
  have e1 : seeD (M ++ [.lst [], .lst []]) (.loc M.length) = some (.frz []) := by simp [seeD, pureDs]
  have e2 : seeD (M ++ [.lst [], .lst []]) (.loc (M.length + 1)) = some (.frz []) := by
    have g : (M ++ [MO.lst [], MO.lst []])[M.length + 1]? = some (.lst []) := by
      rw [List.getElem?_append_right (by omega), show M.length + 1 - M.length = 1 by omega]; rfl
    simp only [seeD, g]
    rfl
  unfold opEq
  rw [e1, e2]
  simp [deq, deqs, dep, deps]
theorem small_nat {n : Nat} (h : n ≤ 1000000) : small62 (n : Int) = true := by
  simp only [small62, Bool.and_eq_true, decide_eq_true_eq, Int.reducePow, Int.reduceNeg]; omega
theorem range1_ok {a : SMo D} {env : Ev} {M M1 : Hh} {n : Nat} (h : a env M = .ok (.int (n : Int)) M1) (hs : small62 (n : Int) = true) : vRange1 a env M = .ok (itR 0 n) M1 := by
  rw [ev_range1, h, Res.bind_ok]
  generalize small62 = f at hs ⊢
  simp only [hs, if_true, Int.toNat_natCast]
theorem like_e (k : Nat) (xs : List D) (M : Hh) (hl : xs.length ≤ 1000000) (h : ∀ x ∈ xs, ∀ M' : Hh, callF k 25 [x, x] M' = .ok (.bl true) M') : vComp (vRange1 (vB fLen (vCons (vVar 1) (vNil)))) (.one 2) (vNot (vTru (vCallN 2 (callF k 25) (vCons (vOp opIx (vVar 0) (vVar 2)) (vCons (vOp opIx (vVar 1) (vVar 2)) (vNil)))))) (vC (.int 1)) [2] [some (.tup xs), some (.tup xs), none] M = .ok (.loc M.length) (M ++ [.lst []]) := by
  have h1 : vRange1 (vB fLen (vCons (vVar 1) (vNil))) [some (.tup xs), some (.tup xs), none] M = .ok (itR 0 xs.length) M := by
    have h2 : vB fLen (vCons (vVar 1) (vNil)) [some (.tup xs), some (.tup xs), none] M = .ok (.int (xs.length : Nat)) M := rfl
    exact range1_ok h2 (small_nat hl)
  rw [ev_comp, h1]
  simp only [Res.bind_ok]
  exact like_c k xs M hl h
theorem like_tup (k : Nat) (xs : List D) (M : Hh) (hl : xs.length ≤ 1000000) (h : ∀ x ∈ xs, ∀ M' : Hh, callF k 25 [x, x] M' = .ok (.bl true) M') : callF (k + 1) 25 [.tup xs, .tup xs] M = .ok (.bl true) M := by
  have h0 : callF (k + 1) 25 = runF 3 (m__law_like (callF k)) := rfl
  rw [h0]
  refine run_ok ⟨[.lst [], .lst []], ?_⟩ rfl
  exact like_step xs M _ _ (like_e k xs M hl h) (like_q M)
theorem f_like : ∀ (n k : Nat) (d : D) (M : Hh), dep d ≤ n → n < k → likeOk d = true → callF k 25 [d, d] M = .ok (.bl true) M := by
  intro n
  induction n with
  | zero =>
    intro k d M hd hk ho
    obtain ⟨k, rfl⟩ : ∃ j, k = j + 1 := ⟨k - 1, by omega⟩
    cases d with
    | tup xs => simp [dep] at hd
    | frz xs => cases ho
    | loc l => cases ho
    | fn i => cases ho
    | non =>
      show runF 3 (m__law_like (callF k)) [.non, .non] M = _
      exact run_ok ⟨[], by simp [m__law_like, start2]⟩ rfl
    | bl b =>
      show runF 3 (m__law_like (callF k)) [.bl b, .bl b] M = _
      have e1 : ∀ b, opIs (.bl b) .non M = some (.bl false, M) := fun _ => rfl
      have e2 : ∀ b, opIs (.bl b) (.bl true) M = some (.bl b, M) := fun b => by cases b <;> rfl
      have e3 : ∀ b, opIs (.bl b) (.bl false) M = some (.bl (!b), M) := fun b => by cases b <;> rfl
      cases b
      · exact run_ok ⟨[], by simp [m__law_like, start2, e1, e2, e3]⟩ rfl
      · exact run_ok ⟨[], by simp [m__law_like, start2, e1, e2, e3]⟩ rfl
    | int i =>
      show runF 3 (m__law_like (callF k)) [.int i, .int i] M = _
      have e2 : opIs (.int i) (.bl true) M = some (.bl false, M) := rfl
      have e3 : opIs (.int i) (.bl false) M = some (.bl false, M) := rfl
      exact run_ok ⟨[], by simp [m__law_like, start2, e2, e3]⟩ rfl
    | str s =>
      show runF 3 (m__law_like (callF k)) [.str s, .str s] M = _
      have e2 : opIs (.str s) (.bl true) M = some (.bl false, M) := rfl
      have e3 : opIs (.str s) (.bl false) M = some (.bl false, M) := rfl
      have hl : s.length ≤ 1000000 := by simpa [likeOk] using ho
      have hj : mJoin (.str z_empty) [.loc M.length] (M ++ [.lst [.str s]]) = some (.str s, M ++ [.lst [.str s]]) := by
        unfold mJoin
        simp only [itemsD_last, Option.bind_some, strsD, Option.map_some]
        rw [if_pos (by simp [z_empty]; omega)]
        rfl
      exact run_ok ⟨[.lst [.str s]], by simp [m__law_like, start2, e2, e3, tyM, hj]⟩ rfl
  | succ n ih =>
    intro k d M hd hk ho
    cases d with
    | tup xs =>
      obtain ⟨k, rfl⟩ : ∃ j, k = j + 1 := ⟨k - 1, by omega⟩
      simp only [likeOk, Bool.and_eq_true, decide_eq_true_eq] at ho
      simp only [dep] at hd
      refine like_tup k xs M ho.1 fun x hx M' => ih k x M' ?_ (by omega) (likeOks_mem ho.2 hx)
      have := deps_mem hx
      omega
    | frz xs => cases ho
    | loc l => cases ho
    | fn i => cases ho
    | non => exact ih k _ M (by simp [dep]) (by omega) ho
    | bl b => exact ih k _ M (by simp [dep]) (by omega) ho
    | int i => exact ih k _ M (by simp [dep]) (by omega) ho
    | str s => exact ih k _ M (by simp [dep]) (by omega) ho
end Gm.K28

set_option Elab.async false
set_option linter.all false
set_option maxRecDepth 100000
set_option maxHeartbeats 1000000
set_option autoImplicit false
namespace Gm.K28
open Gm
open L2
open PySem PyProof
/-! ### repr -/
def lowS (s : List Nat) : Bool := s.all fun c => decide (97 ≤ c) && decide (c ≤ 122)
theorem repr_low : ∀ c, 97 ≤ c → c ≤ 122 → PySem.Builtin.Str.reprChar 39 c = [c] := by
  have h : (List.range 26).all (fun i => PySem.Builtin.Str.reprChar 39 (97 + i) == [97 + i]) = true := by decide +kernel
  intro c h1 h2
  have := List.all_eq_true.mp h (c - 97) (List.mem_range.mpr (by omega))
  rw [show 97 + (c - 97) = c by omega] at this
  exact eq_of_beq this
theorem cl_app (a b : Str) : (a ++ b).cps.toList = a.cps.toList ++ b.cps.toList := by
  show (a.cps ++ b.cps).toList = _
  simp
theorem cl_join (sep : Str) : ∀ l : List Str, (Str.join sep l).cps.toList = joinD sep.cps.toList (l.map fun x => x.cps.toList)
  | [] => rfl
  | [x] => rfl
  | x :: y :: r => by
    have := cl_join sep (y :: r)
    show (x ++ sep ++ Str.join sep (y :: r)).cps.toList = _
    rw [cl_app, cl_app, this]; rfl
theorem repr_str {s : List Nat} (h : lowS s = true) : (reprText (⟨s.toArray⟩ : Str)).cps.toList = 39 :: (s ++ [39]) := by
  have hm : ∀ c ∈ s, 97 ≤ c ∧ c ≤ 122 := fun c hc => by
    have := List.all_eq_true.mp h c hc
    simpa using this
  have hq : reprQuote (⟨s.toArray⟩ : Str) = 39 := by
    unfold reprQuote
    have : (s.toArray).contains 39 = false := by
      rw [Array.contains_eq_any_beq, List.any_toArray, List.any_eq_false]
      intro c hc
      have := hm c hc
      simp; omega
    simp only [this, Bool.false_and]
    rfl
  have hf : ∀ (l : List Nat) (acc : Array Nat), (∀ c ∈ l, 97 ≤ c ∧ c ≤ 122) → (l.foldl (fun out c => out ++ (PySem.Builtin.Str.reprChar 39 c).toArray) acc).toList = acc.toList ++ l := by
    intro l
    induction l with
    | nil => intro acc _; simp
    | cons c l ih =>
      intro acc hl
      have hc := hl c (by simp)
      simp only [List.foldl_cons]
      rw [ih _ fun x hx => hl x (List.mem_cons_of_mem _ hx), repr_low c hc.1 hc.2]
      simp
  unfold reprText
  rw [hq]
  simp only [Array.toList_push]
  rw [← Array.foldl_toList, hf s _ hm]
  simp
mutual
def shD : D → List Nat
  | .str s => 39 :: (s ++ [39])
  | .int i => figs i
  | .tup [] => [40, 41]
  | .tup [x] => 40 :: (shD x ++ [44, 41])
  | .tup (x :: y :: r) => 40 :: (shD x ++ shR (y :: r))
  | _ => []
def shR : List D → List Nat
  | [] => [41]
  | y :: ys => 44 :: 32 :: (shD y ++ shR ys)
end
mutual
def tame : D → Bool
  | .str s => lowS s
  | .int i => decide (0 ≤ i) && decide (i < 1000)
  | .tup xs => tames xs
  | _ => false
def tames : List D → Bool
  | [] => true
  | x :: xs => tame x && tames xs
end
theorem join_flat : ∀ (a : List Nat) (l : List (List Nat)), joinD [44, 32] (a :: l) = a ++ l.flatMap fun z => 44 :: 32 :: z
  | a, [] => by simp [joinD]
  | a, b :: l => by
    have := join_flat b l
    simp only [joinD, this, List.flatMap_cons]; simp
mutual
theorem shown_sh : ∀ d : D, tame d = true → shownD d = shD d
  | .str s, h => repr_str h
  | .int i, _ => by
    unfold shownD
    show (toString i : Str).cps.toList = _
    rw [str_figs]
    simp [shD]
  | .tup [], _ => rfl
  | .tup [x], h => by
    have h1 : tame x = true := by simpa [tame, tames] using h
    have := shown_sh x h1
    show ((("(" : Str) ++ Str.join ", " [(toPy x).shown]) ++ ((",)" : String) : Str)).cps.toList = _
    rw [cl_app, cl_app, cl_join]
    simp only [List.map_cons, List.map_nil, joinD]
    rw [show (toPy x).shown.cps.toList = shownD x from rfl, this]
    rfl
  | .tup (x :: y :: r), h => by
    simp only [tame, tames, Bool.and_eq_true] at h
    have h1 := shown_sh x h.1
    have h2 := shown_shR (y :: r) (by simp [tames, h.2])
    show ((("(" : Str) ++ Str.join ", " ((toPy x).shown :: PyData.shownAll (toPys (y :: r)))) ++ (if ((toPy x).shown :: PyData.shownAll (toPys (y :: r))).length == 1 then ",)" else ")" : String)).cps.toList = _
    have hn : (((toPy x).shown :: PyData.shownAll (toPys (y :: r))).length == 1) = false := by simp [toPys, PyData.shownAll]
    rw [cl_app, cl_app, cl_join, hn, List.map_cons]
    show [40] ++ joinD [44, 32] (shownD x :: _) ++ [41] = _
    rw [join_flat, List.append_assoc, List.append_assoc, h2, h1]
    simp [shD]
  | .non, h => by cases h
  | .bl _, h => by cases h
  | .frz _, h => by cases h
  | .loc _, h => by cases h
  | .fn _, h => by cases h
theorem shown_shR : ∀ ys : List D, tames ys = true → (((PyData.shownAll (toPys ys)).map fun x => x.cps.toList).flatMap fun z => 44 :: 32 :: z) ++ [41] = shR ys
  | [], _ => rfl
  | y :: ys, h => by
    simp only [tames, Bool.and_eq_true] at h
    have h1 := shown_sh y h.1
    have h2 := shown_shR ys h.2
    simp only [toPys, PyData.shownAll, List.map_cons, List.flatMap_cons, shR]
    rw [show (toPy y).shown.cps.toList = shownD y from rfl, h1, ← h2]
    simp
end
/-! what is shown tells what it is -/
def Term (r : List Nat) : Prop := r = [] ∨ ∃ t, r = 41 :: t ∨ r = 44 :: t
theorem term_R (ys : List D) (r : List Nat) : Term (shR ys ++ r) := by
  cases ys with
  | nil => exact .inr ⟨r, .inl rfl⟩
  | cons y ys => exact .inr ⟨_, .inr rfl⟩
theorem digits_inj : ∀ (a b r r' : List Nat), (∀ c ∈ a, 48 ≤ c ∧ c ≤ 57) → (∀ c ∈ b, 48 ≤ c ∧ c ≤ 57) → Term r → Term r' → a ++ r = b ++ r' → a = b ∧ r = r'
  | [], [], r, r', _, _, _, _, h => ⟨rfl, h⟩
  | [], c :: b, r, r', _, hb, hr, _, h => by
    have hc := hb c (by simp)
    have h : r = c :: (b ++ r') := h
    rcases hr with rfl | ⟨t, rfl | rfl⟩
    · cases h
    · cases h; omega
    · cases h; omega
  | c :: a, [], r, r', ha, _, _, hr, h => by
    have hc := ha c (by simp)
    have h : c :: (a ++ r) = r' := h
    rcases hr with rfl | ⟨t, rfl | rfl⟩
    · cases h
    · cases h; omega
    · cases h; omega
  | c :: a, d :: b, r, r', ha, hb, hr, hr', h => by
    have h : c :: (a ++ r) = d :: (b ++ r') := h
    injection h with h1 h2
    obtain ⟨e1, e2⟩ := digits_inj a b r r' (fun x hx => ha x (List.mem_cons_of_mem _ hx)) (fun x hx => hb x (List.mem_cons_of_mem _ hx)) hr hr' h2
    exact ⟨by rw [h1, e1], e2⟩
theorem quote_inj : ∀ (a b r r' : List Nat), (∀ c ∈ a, 97 ≤ c) → (∀ c ∈ b, 97 ≤ c) → a ++ 39 :: r = b ++ 39 :: r' → a = b ∧ r = r'
  | [], [], r, r', _, _, h => by cases h; exact ⟨rfl, rfl⟩
  | [], c :: b, r, r', _, hb, h => by
    have := hb c (by simp)
    have h : 39 :: r = c :: (b ++ 39 :: r') := h
    cases h; omega
  | c :: a, [], r, r', ha, _, h => by
    have := ha c (by simp)
    have h : c :: (a ++ 39 :: r) = 39 :: r' := h
    cases h; omega
  | c :: a, d :: b, r, r', ha, hb, h => by
    have h : c :: (a ++ 39 :: r) = d :: (b ++ 39 :: r') := h
    injection h with h1 h2
    obtain ⟨e1, e2⟩ := quote_inj a b r r' (fun x hx => ha x (List.mem_cons_of_mem _ hx)) (fun x hx => hb x (List.mem_cons_of_mem _ hx)) h2
    exact ⟨by rw [h1, e1], e2⟩
theorem figs_tame {i : Int} (h : tame (.int i) = true) : figsVal (figs i) = some i ∧ (∀ c ∈ figs i, 48 ≤ c ∧ c ≤ 57) ∧ figs i ≠ [] := by
  simp only [tame, Bool.and_eq_true, decide_eq_true_eq] at h
  obtain ⟨g, rfl⟩ : ∃ g : Nat, i = (g : Int) := ⟨i.toNat, by omega⟩
  have hf := figs_fact (g := g) (by omega)
  refine ⟨hf.2.2.1, hf.2.2.2, fun e => ?_⟩
  have := hf.2.1
  rw [e] at this
  cases this
theorem low_ge {s : List Nat} (h : lowS s = true) : ∀ c ∈ s, 97 ≤ c := fun c hc => by
  have := List.all_eq_true.mp h c hc
  simp only [Bool.and_eq_true, decide_eq_true_eq] at this
  exact this.1
/-- the first sign: a quote, a bracket or a figure -/
theorem sh_head {d : D} (h : tame d = true) : ∃ c t, shD d = c :: t ∧ (match d with | .str _ => c = 39 | .tup _ => c = 40 | _ => 48 ≤ c ∧ c ≤ 57) := by
  cases d with
  | str s => exact ⟨39, _, rfl, rfl⟩
  | int i =>
    obtain ⟨_, h2, h3⟩ := figs_tame h
    cases e : figs i with
    | nil => exact absurd e h3
    | cons c t => exact ⟨c, t, e, h2 c (by rw [e]; simp)⟩
  | tup xs =>
    match xs with
    | [] => exact ⟨40, _, rfl, rfl⟩
    | [x] => exact ⟨40, _, rfl, rfl⟩
    | x :: y :: r => exact ⟨40, _, rfl, rfl⟩
  | non => cases h
  | bl _ => cases h
  | frz _ => cases h
  | loc _ => cases h
  | fn _ => cases h
theorem not_41 {d : D} {r t : List Nat} (h : tame d = true) : shD d ++ r ≠ 41 :: t := by
  intro e
  obtain ⟨c, u, e1, e2⟩ := sh_head h
  rw [e1] at e
  have : c = 41 := by cases e; rfl
  subst this
  cases d <;> simp at e2
mutual
theorem sh_inj : ∀ (d d' : D) (r r' : List Nat), tame d = true → tame d' = true → Term r → Term r' → shD d ++ r = shD d' ++ r' → d = d' ∧ r = r'
  | .str s, d', r, r', h, h', hr, hr', e => by
    obtain ⟨c, t, e1, e2⟩ := sh_head h'
    cases d' with
    | str s' =>
      have e : 39 :: (s ++ [39] ++ r) = 39 :: (s' ++ [39] ++ r') := e
      injection e with _ e
      simp only [List.append_assoc, List.singleton_append] at e
      obtain ⟨e1, e2⟩ := quote_inj _ _ _ _ (low_ge h) (low_ge h') e
      exact ⟨by rw [e1], e2⟩
    | int i =>
      rw [e1] at e
      have e : 39 :: (s ++ [39] ++ r) = c :: (t ++ r') := e
      injection e with e _
      subst e
      simp at e2
    | tup xs =>
      rw [e1] at e
      have e : 39 :: (s ++ [39] ++ r) = c :: (t ++ r') := e
      injection e with e _
      subst e
      simp at e2
    | non => cases h'
    | bl _ => cases h'
    | frz _ => cases h'
    | loc _ => cases h'
    | fn _ => cases h'
  | .int i, d', r, r', h, h', hr, hr', e => by
    obtain ⟨c, t, e1, e2⟩ := sh_head h'
    obtain ⟨f1, f2, f3⟩ := figs_tame h
    obtain ⟨c0, t0, g1, g2⟩ := sh_head h
    cases d' with
    | int j =>
      obtain ⟨f1', f2', f3'⟩ := figs_tame h'
      obtain ⟨e3, e4⟩ := digits_inj (figs i) (figs j) r r' f2 f2' hr hr' e
      rw [e3, f1'] at f1
      cases f1
      exact ⟨rfl, e4⟩
    | str s' =>
      rw [e1, g1] at e
      have e : c0 :: (t0 ++ r) = c :: (t ++ r') := e
      injection e with e _
      subst e
      simp at e2 g2; omega
    | tup xs =>
      rw [e1, g1] at e
      have e : c0 :: (t0 ++ r) = c :: (t ++ r') := e
      injection e with e _
      subst e
      simp at e2 g2; omega
    | non => cases h'
    | bl _ => cases h'
    | frz _ => cases h'
    | loc _ => cases h'
    | fn _ => cases h'
  | .tup [], d', r, r', h, h', hr, hr', e => by
    obtain ⟨c, t, e1, e2⟩ := sh_head h'
    cases d' with
    | tup xs =>
      match xs, h', e with
      | [], _, e => cases e; exact ⟨rfl, rfl⟩
      | [x], h', e =>
        have hx : tame x = true := by simpa [tame, tames] using h'
        have e : 40 :: 41 :: r = 40 :: (shD x ++ [44, 41] ++ r') := e
        injection e with _ e
        rw [List.append_assoc] at e
        exact absurd e.symm (not_41 hx)
      | x :: y :: q, h', e =>
        simp only [tame, tames, Bool.and_eq_true] at h'
        have e : 40 :: 41 :: r = 40 :: (shD x ++ shR (y :: q) ++ r') := e
        injection e with _ e
        rw [List.append_assoc] at e
        exact absurd e.symm (not_41 h'.1)
    | int i =>
      rw [e1] at e
      have e : 40 :: 41 :: r = c :: (t ++ r') := e
      injection e with e _
      subst e
      simp at e2
    | str s' =>
      rw [e1] at e
      have e : 40 :: 41 :: r = c :: (t ++ r') := e
      injection e with e _
      subst e
      simp at e2
    | non => cases h'
    | bl _ => cases h'
    | frz _ => cases h'
    | loc _ => cases h'
    | fn _ => cases h'
  | .tup [x], d', r, r', h, h', hr, hr', e => by
    have hx : tame x = true := by simpa [tame, tames] using h
    obtain ⟨c, t, e1, e2⟩ := sh_head h'
    cases d' with
    | tup xs =>
      match xs, h', e with
      | [], _, e =>
        have e : 40 :: (shD x ++ [44, 41] ++ r) = 40 :: 41 :: r' := e
        injection e with _ e
        rw [List.append_assoc] at e
        exact absurd e (not_41 hx)
      | [x'], h', e =>
        have hx' : tame x' = true := by simpa [tame, tames] using h'
        have e : 40 :: (shD x ++ [44, 41] ++ r) = 40 :: (shD x' ++ [44, 41] ++ r') := e
        injection e with _ e
        rw [List.append_assoc, List.append_assoc] at e
        obtain ⟨e3, e4⟩ := sh_inj x x' ([44, 41] ++ r) ([44, 41] ++ r') hx hx' (.inr ⟨_, .inr rfl⟩) (.inr ⟨_, .inr rfl⟩) e
        cases e3; cases e4
        exact ⟨rfl, rfl⟩
      | x' :: y :: q, h', e =>
        simp only [tame, tames, Bool.and_eq_true] at h'
        have e : 40 :: (shD x ++ [44, 41] ++ r) = 40 :: (shD x' ++ shR (y :: q) ++ r') := e
        injection e with _ e
        rw [List.append_assoc, List.append_assoc] at e
        obtain ⟨e3, e4⟩ := sh_inj x x' ([44, 41] ++ r) (shR (y :: q) ++ r') hx h'.1 (.inr ⟨_, .inr rfl⟩) (term_R _ _) e
        have e4 : 44 :: 41 :: r = 44 :: 32 :: (shD y ++ shR q ++ r') := e4
        cases e4
    | int i =>
      rw [e1] at e
      have e : 40 :: (shD x ++ [44, 41] ++ r) = c :: (t ++ r') := e
      injection e with e _
      subst e
      simp at e2
    | str s' =>
      rw [e1] at e
      have e : 40 :: (shD x ++ [44, 41] ++ r) = c :: (t ++ r') := e
      injection e with e _
      subst e
      simp at e2
    | non => cases h'
    | bl _ => cases h'
    | frz _ => cases h'
    | loc _ => cases h'
    | fn _ => cases h'
  | .tup (x :: y :: q), d', r, r', h, h', hr, hr', e => by
    simp only [tame, tames, Bool.and_eq_true] at h
    have hyq : tames (y :: q) = true := by simp [tames, h.2]
    obtain ⟨c, t, e1, e2⟩ := sh_head h'
    cases d' with
    | tup xs =>
      match xs, h', e with
      | [], _, e =>
        have e : 40 :: (shD x ++ shR (y :: q) ++ r) = 40 :: 41 :: r' := e
        injection e with _ e
        rw [List.append_assoc] at e
        exact absurd e (not_41 h.1)
      | [x'], h', e =>
        have hx' : tame x' = true := by simpa [tame, tames] using h'
        have e : 40 :: (shD x ++ shR (y :: q) ++ r) = 40 :: (shD x' ++ [44, 41] ++ r') := e
        injection e with _ e
        rw [List.append_assoc, List.append_assoc] at e
        obtain ⟨e3, e4⟩ := sh_inj x x' (shR (y :: q) ++ r) ([44, 41] ++ r') h.1 hx' (term_R _ _) (.inr ⟨_, .inr rfl⟩) e
        have e4 : 44 :: 32 :: (shD y ++ shR q ++ r) = 44 :: 41 :: r' := e4
        cases e4
      | x' :: y' :: q', h', e =>
        simp only [tame, tames, Bool.and_eq_true] at h'
        have hyq' : tames (y' :: q') = true := by simp [tames, h'.2]
        have e : 40 :: (shD x ++ shR (y :: q) ++ r) = 40 :: (shD x' ++ shR (y' :: q') ++ r') := e
        injection e with _ e
        rw [List.append_assoc, List.append_assoc] at e
        obtain ⟨e3, e4⟩ := sh_inj x x' (shR (y :: q) ++ r) (shR (y' :: q') ++ r') h.1 h'.1 (term_R _ _) (term_R _ _) e
        obtain ⟨e5, e6⟩ := shR_inj (y :: q) (y' :: q') r r' hyq hyq' hr hr' e4
        cases e3; cases e5
        exact ⟨rfl, e6⟩
    | int i =>
      rw [e1] at e
      have e : 40 :: (shD x ++ shR (y :: q) ++ r) = c :: (t ++ r') := e
      injection e with e _
      subst e
      simp at e2
    | str s' =>
      rw [e1] at e
      have e : 40 :: (shD x ++ shR (y :: q) ++ r) = c :: (t ++ r') := e
      injection e with e _
      subst e
      simp at e2
    | non => cases h'
    | bl _ => cases h'
    | frz _ => cases h'
    | loc _ => cases h'
    | fn _ => cases h'
  | .non, _, _, _, h, _, _, _, _ => by cases h
  | .bl _, _, _, _, h, _, _, _, _ => by cases h
  | .frz _, _, _, _, h, _, _, _, _ => by cases h
  | .loc _, _, _, _, h, _, _, _, _ => by cases h
  | .fn _, _, _, _, h, _, _, _, _ => by cases h
theorem shR_inj : ∀ (ys ys' : List D) (r r' : List Nat), tames ys = true → tames ys' = true → Term r → Term r' → shR ys ++ r = shR ys' ++ r' → ys = ys' ∧ r = r'
  | [], ys', r, r', h, h', hr, hr', e => by
    cases ys' with
    | nil => cases e; exact ⟨rfl, rfl⟩
    | cons y' q' =>
      have e : 41 :: r = 44 :: 32 :: (shD y' ++ shR q' ++ r') := e
      cases e
  | y :: q, ys', r, r', h, h', hr, hr', e => by
    simp only [tames, Bool.and_eq_true] at h
    cases ys' with
    | nil =>
      have e : 44 :: 32 :: (shD y ++ shR q ++ r) = 41 :: r' := e
      cases e
    | cons y' q' =>
      simp only [tames, Bool.and_eq_true] at h'
      have e : 44 :: 32 :: (shD y ++ shR q ++ r) = 44 :: 32 :: (shD y' ++ shR q' ++ r') := e
      injection e with _ e
      injection e with _ e
      rw [List.append_assoc, List.append_assoc] at e
      obtain ⟨e3, e4⟩ := sh_inj y y' _ _ h.1 h'.1 (term_R _ _) (term_R _ _) e
      obtain ⟨e5, e6⟩ := shR_inj q q' r r' h.2 h'.2 hr hr' e4
      exact ⟨by rw [e3, e5], e6⟩
end
end Gm.K28

set_option Elab.async false
set_option linter.all false
set_option maxRecDepth 100000
set_option maxHeartbeats 1000000
set_option autoImplicit false
namespace Gm.K28
open Gm
open L2
open PySem PyProof
/-! ### _law_same -/
mutual
theorem showable_tame : ∀ d : D, tame d = true → (toPy d).showable = true
  | .str s, _ => rfl
  | .int i, h => by
    simp only [tame, Bool.and_eq_true, decide_eq_true_eq] at h
    have := small_log h.1 h.2
    show decide (i.natAbs.log2 < 1920) = true
    exact decide_eq_true this
  | .tup xs, h => showable_tames xs h
  | .non, h => by cases h
  | .bl _, h => by cases h
  | .frz _, h => by cases h
  | .loc _, h => by cases h
  | .fn _, h => by cases h
theorem showable_tames : ∀ xs : List D, tames xs = true → PyData.showableAll (toPys xs) = true
  | [], _ => rfl
  | x :: xs, h => by
    simp only [tames, Bool.and_eq_true] at h
    show ((toPy x).showable && PyData.showableAll (toPys xs)) = true
    rw [showable_tame x h.1, showable_tames xs h.2]; rfl
end
mutual
theorem sh_small : ∀ d : D, tame d = true → ∀ c ∈ shD d, c < 1114112
  | .str s, h, c, hc => by
    have hm : ∀ c ∈ s, c ≤ 122 := fun c hc => by
      have := List.all_eq_true.mp h c hc
      simp only [Bool.and_eq_true, decide_eq_true_eq] at this
      exact this.2
    simp only [shD, List.mem_cons, List.mem_append, List.not_mem_nil, or_false] at hc
    rcases hc with rfl | hc | rfl
    · omega
    · have := hm c hc; omega
    · omega
  | .int i, h, c, hc => by
    have := (figs_tame h).2.1 c hc
    omega
  | .tup [], h, c, hc => by
    simp only [shD, List.mem_cons, List.not_mem_nil, or_false] at hc
    omega
  | .tup [x], h, c, hc => by
    have hx : tame x = true := by simpa [tame, tames] using h
    simp only [shD, List.mem_cons, List.mem_append, List.not_mem_nil, or_false] at hc
    rcases hc with rfl | hc | hc
    · omega
    · exact sh_small x hx c hc
    · omega
  | .tup (x :: y :: r), h, c, hc => by
    simp only [tame, tames, Bool.and_eq_true] at h
    simp only [shD, List.mem_cons, List.mem_append] at hc
    rcases hc with rfl | hc | hc
    · omega
    · exact sh_small x h.1 c hc
    · exact sh_smalls (y :: r) (by simp [tames, h.2]) c hc
  | .non, h, _, _ => by cases h
  | .bl _, h, _, _ => by cases h
  | .frz _, h, _, _ => by cases h
  | .loc _, h, _, _ => by cases h
  | .fn _, h, _, _ => by cases h
theorem sh_smalls : ∀ xs : List D, tames xs = true → ∀ c ∈ shR xs, c < 1114112
  | [], _, c, hc => by
    simp only [shR, List.mem_cons, List.not_mem_nil, or_false] at hc
    omega
  | x :: xs, h, c, hc => by
    simp only [tames, Bool.and_eq_true] at h
    simp only [shR, List.mem_cons, List.mem_append] at hc
    rcases hc with rfl | rfl | hc | hc
    · omega
    · omega
    · exact sh_small x h.1 c hc
    · exact sh_smalls xs h.2 c hc
end
theorem name_low {s : List Nat} (h : isName s = true) : lowS s = true := by
  simp only [isName, Bool.and_eq_true] at h
  have ha := h.2
  unfold lowS
  rw [List.all_eq_true] at ha ⊢
  intro c hc
  have := of_decide_eq_true (ha c hc)
  simp only [letters, z_abcdefghijklmnopqrstuvwx, List.mem_cons, List.not_mem_nil, or_false] at this
  simp only [Bool.and_eq_true, decide_eq_true_eq]
  omega
theorem te_tame : ∀ t : Te, t.ok = true → tame t.toD = true ∧ dep t.toD ≤ t.depth ∧ (shD t.toD).length ≤ 20 * t.size
  | .yes, _ => by decide
  | .no, _ => by decide
  | .is n, h => by
    have h1 : isName n = true := h
    have h2 := isName_len h1
    refine ⟨?_, by simp [Te.toD, dep, deps, Te.depth], ?_⟩
    · have : lowS z_is = true := by decide
      simp [Te.toD, tame, tames, name_low h1, this]
    · have : z_is.length = 2 := rfl
      simp [Te.toD, shD, shR, Te.size, this]; omega
  | .not t, h => by
    obtain ⟨h1, h2, h3⟩ := te_tame t h
    refine ⟨?_, ?_, ?_⟩
    · have : lowS z_not = true := by decide
      simp [Te.toD, tame, tames, h1, this]
    · simp [Te.toD, dep, deps, Te.depth]; omega
    · have : z_not.length = 3 := rfl
      simp [Te.toD, shD, shR, Te.size, this]; omega
  | .and a b, h => by
    simp only [Te.ok, Bool.and_eq_true] at h
    obtain ⟨h1, h2, h3⟩ := te_tame a h.1
    obtain ⟨h4, h5, h6⟩ := te_tame b h.2
    refine ⟨?_, ?_, ?_⟩
    · have : lowS z_and = true := by decide
      simp [Te.toD, tame, tames, h1, h4, this]
    · simp [Te.toD, dep, deps, Te.depth]; omega
    · have : z_and.length = 3 := rfl
      simp [Te.toD, shD, shR, Te.size, this]; omega
  | .or a b, h => by
    simp only [Te.ok, Bool.and_eq_true] at h
    obtain ⟨h1, h2, h3⟩ := te_tame a h.1
    obtain ⟨h4, h5, h6⟩ := te_tame b h.2
    refine ⟨?_, ?_, ?_⟩
    · have : lowS z_or = true := by decide
      simp [Te.toD, tame, tames, h1, h4, this]
    · simp [Te.toD, dep, deps, Te.depth]; omega
    · have : z_or.length = 2 := rfl
      simp [Te.toD, shD, shR, Te.size, this]; omega
def lw : Ln → Nat
  | .un t _ => 20 * t.size + 20
  | _ => 20
theorem ln_tame (x : Ln) (h : x.fine = true) : tame x.toD = true ∧ dep x.toD ≤ 11 ∧ (shD x.toD).length ≤ lw x := by
  cases x with
  | doL s =>
    have h1 : isName s = true := h
    have h2 := isName_len h1
    refine ⟨?_, by simp [Ln.toD, dep, deps], ?_⟩
    · have : lowS z_do = true := by decide
      simp [Ln.toD, tame, tames, name_low h1, this]
    · have : z_do.length = 2 := rfl
      simp [Ln.toD, shD, shR, lw, this]; omega
  | goL g =>
    have h1 : g < 1000 := by simpa [Ln.fine] using h
    have h2 := (figs_fact h1).1
    refine ⟨?_, by simp [Ln.toD, dep, deps], ?_⟩
    · have : lowS z_go = true := by decide
      simp [Ln.toD, tame, tames, this]; omega
    · have : z_go.length = 2 := rfl
      simp [Ln.toD, shD, shR, lw, this]; omega
  | stop => decide
  | un t g =>
    simp only [Ln.fine, Bool.and_eq_true, decide_eq_true_eq] at h
    obtain ⟨h1, h2, h3⟩ := te_tame t h.1.1.1
    have h4 := (figs_fact h.2).1
    refine ⟨?_, ?_, ?_⟩
    · have : lowS z_unless = true := by decide
      simp [Ln.toD, tame, tames, this, h1]; omega
    · simp [Ln.toD, dep, deps]; omega
    · have : z_unless.length = 6 := rfl
      simp [Ln.toD, shD, shR, lw, this]; omega
theorem lns_tame : ∀ C : List Ln, (∀ x ∈ C, x.fine = true) → tames (C.map Ln.toD) = true ∧ deps (C.map Ln.toD) ≤ 11 ∧ (shR (C.map Ln.toD)).length ≤ 1 + (C.map fun x => lw x + 2).sum
  | [], _ => by simp [tames, deps, shR]
  | x :: C, h => by
    obtain ⟨h1, h2, h3⟩ := lns_tame C fun y hy => h y (List.mem_cons_of_mem _ hy)
    obtain ⟨h4, h5, h6⟩ := ln_tame x (h x (by simp))
    refine ⟨by simp [tames, h1, h4], by simp [deps]; omega, ?_⟩
    simp only [List.map_cons, shR, List.length_cons, List.length_append, List.sum_cons]
    omega
theorem code_tame (C : List Ln) (h : ∀ x ∈ C, x.fine = true) : tame (codeD C) = true ∧ dep (codeD C) ≤ 12 ∧ (shD (codeD C)).length ≤ 4 + (C.map fun x => lw x + 2).sum := by
  obtain ⟨h1, h2, h3⟩ := lns_tame C h
  refine ⟨h1, by simp only [codeD, dep]; omega, ?_⟩
  match C, h, h3 with
  | [], _, _ => decide
  | [x], h, h3 =>
    obtain ⟨h4, h5, h6⟩ := ln_tame x (h x (by simp))
    simp only [codeD, List.map_cons, List.map_nil, shD, List.length_cons, List.length_append, List.length_nil, List.sum_cons, List.sum_nil]
    omega
  | x :: y :: r, h, h3 =>
    simp only [List.map_cons, shR, List.length_cons, List.length_append, List.sum_cons] at h3
    simp only [codeD, List.map_cons, shD, shR, List.length_cons, List.length_append, List.sum_cons]
    omega
theorem f_repr (C : List Ln) (M : Hh) (h : ∀ x ∈ C, x.fine = true) (hl : (C.map fun x => lw x + 2).sum ≤ 16000000) : fRepr [codeD C] M = some (.str (shD (codeD C)), M) := by
  obtain ⟨h1, h2, h3⟩ := code_tame C h
  have hs := shown_sh _ h1
  have hr : reprOk (codeD C) = true := by
    unfold reprOk
    rw [showable_tame _ h1, hs]
    simp only [Bool.true_and, Bool.and_eq_true, decide_eq_true_eq, List.all_eq_true]
    exact ⟨⟨by omega, by omega⟩, fun c hc => sh_small _ h1 c hc⟩
  have hsee : seeD M (codeD C) = some (codeD C) := by
    have := code_pure C
    unfold codeD at this ⊢
    simp only [seeD, this, if_true]
  unfold fRepr
  simp only [hsee]
  rw [if_pos (by rw [hr]; rfl), hs]
theorem te_inj : ∀ t u : Te, t.toD = u.toD → t = u
  | .yes, u, h => by cases u <;> simp [Te.toD] at h <;> first | rfl | exact absurd h (by decide)
  | .no, u, h => by cases u <;> simp [Te.toD] at h <;> first | rfl | exact absurd h (by decide)
  | .is n, u, h => by
    cases u <;> simp [Te.toD] at h
    · rw [h]
    · exact absurd h.1 (by decide)
  | .not t, u, h => by
    cases u <;> simp [Te.toD] at h
    · exact absurd h.1 (by decide)
    · rw [te_inj t _ h]
  | .and a b, u, h => by
    cases u <;> simp [Te.toD] at h
    · rw [te_inj a _ h.1, te_inj b _ h.2]
    · exact absurd h.1 (by decide)
  | .or a b, u, h => by
    cases u <;> simp [Te.toD] at h
    · exact absurd h.1 (by decide)
    · rw [te_inj a _ h.1, te_inj b _ h.2]
theorem ln_inj (x y : Ln) (h : x.toD = y.toD) : x = y := by
  cases x <;> cases y <;> simp [Ln.toD] at h
  all_goals first
    | rfl
    | (rw [h]; done)
    | (exact absurd h.1 (by decide))
    | (have h' : _ = _ := h; subst h'; rfl)
    | (rw [te_inj _ _ h.1]; congr 1; omega)
    | (congr 1; omega)
theorem code_inj (C E : List Ln) (h : codeD C = codeD E) : C = E := by
  have h : C.map Ln.toD = E.map Ln.toD := by injection h
  exact (List.map_inj_right ln_inj).mp h
theorem f_same (k : Nat) (C E : List Ln) (M : Hh) (hC : ∀ x ∈ C, x.fine = true) (hE : ∀ x ∈ E, x.fine = true) (hc : (C.map fun x => lw x + 2).sum ≤ 16000000) (he : (E.map fun x => lw x + 2).sum ≤ 16000000) (hne : C ≠ E) : callF (k + 1) 23 [codeD C, codeD E] M = .ok (.bl false) M := by
  have h0 : callF (k + 1) 23 = runF 2 (m__law_same (callF k)) := rfl
  rw [h0]
  refine run_ok ⟨[], ?_⟩ rfl
  have hs : (shD (codeD C) == shD (codeD E)) = false := by
    rw [beq_eq_false_iff_ne]
    intro e
    have e' : shD (codeD C) ++ [] = shD (codeD E) ++ [] := by rw [e]
    exact hne (code_inj _ _ (sh_inj _ _ [] [] (code_tame C hC).1 (code_tame E hE).1 (.inl rfl) (.inl rfl) e').1)
  simp [m__law_same, start2, f_repr C _ hC hc, f_repr E _ hE he, hs]
end Gm.K28

set_option Elab.async false
set_option linter.all false
set_option maxRecDepth 100000
set_option maxHeartbeats 1000000
set_option autoImplicit false
namespace Gm
theorem join_cons {sep x : List Nat} {l : List (List Nat)} (h : l ≠ []) : joinD sep (x :: l) = x ++ sep ++ joinD sep l := by
  cases l with
  | nil => exact absurd rfl h
  | cons y r => rfl
theorem join_split (c : Nat) : ∀ l : List Nat, joinD [c] (splitD c l) = l
  | [] => rfl
  | x :: r => by
    have ih := join_split c r
    obtain ⟨y, ys, e⟩ := splitD_cons c r
    unfold splitD
    by_cases h : x = c
    · rw [if_pos h, join_cons (by rw [e]; simp), ih, h]; rfl
    · rw [if_neg h]
      rw [e] at ih ⊢
      simp only []
      cases ys with
      | nil =>
        have ih : y = r := ih
        show x :: y = _
        rw [ih]
      | cons z zs =>
        have ih : y ++ [c] ++ joinD [c] (z :: zs) = r := ih
        show x :: y ++ [c] ++ joinD [c] (z :: zs) = _
        rw [← ih]; rfl
theorem join_app {sep : List Nat} : ∀ {a b : List (List Nat)}, a ≠ [] → b ≠ [] → joinD sep (a ++ b) = joinD sep a ++ sep ++ joinD sep b
  | [], _, h, _ => absurd rfl h
  | [x], b, _, hb => join_cons hb
  | x :: y :: r, b, _, hb => by
    have ih := join_app (sep := sep) (a := y :: r) (b := b) (by simp) hb
    show x ++ sep ++ joinD sep ((y :: r) ++ b) = x ++ sep ++ joinD sep (y :: r) ++ sep ++ joinD sep b
    rw [ih]; simp
theorem split_pieces {c : Nat} : ∀ (l : List Nat), ∀ p ∈ splitD c l, c ∉ p
  | [], p, hp => by
    have : p = [] := by simpa [splitD] using hp
    rw [this]; simp
  | x :: r, p, hp => by
    have ih := split_pieces (c := c) r
    unfold splitD at hp
    by_cases h : x = c
    · rw [if_pos h] at hp
      rcases List.mem_cons.mp hp with rfl | hp
      · simp
      · exact ih p hp
    · rw [if_neg h] at hp
      obtain ⟨y, ys, e⟩ := splitD_cons c r
      rw [e] at hp ih
      rcases List.mem_cons.mp hp with rfl | hp
      · intro hc
        rcases List.mem_cons.mp hc with hc | hc
        · exact h hc.symm
        · exact ih y (by simp) hc
      · exact ih p (List.mem_cons_of_mem _ hp)
end Gm
namespace Gm.K28
open Gm
open L2
theorem fmt_lineP {L : List Nat} {x : Ln} (h : lineP L = some x) : fmtL x = L := by
  have hj := join_split 32 L
  obtain ⟨w0, r, hW⟩ := splitD_cons 32 L
  unfold lineP at h
  simp only [] at h
  split at h
  · next e =>
    cases h
    exact (eq_of_beq e).symm
  · split at h
    · next e =>
      cases h
      simp only [Bool.and_eq_true, decide_eq_true_eq] at e
      obtain ⟨⟨e1, e2⟩, e3⟩ := e
      rw [hW] at e1 e2 hj ⊢
      match r, e2 with
      | [w1], _ =>
        have : w0 = z_do := eq_of_beq e1
        rw [this] at hj
        exact hj
    · split at h
      · next e =>
        cases h
        simp only [Bool.and_eq_true, decide_eq_true_eq] at e
        obtain ⟨⟨e1, e2⟩, e3⟩ := e
        rw [hW] at e1 e2 hj e3 ⊢
        match r, e2, e3 with
        | [w1], _, e3 =>
          have e0 : w0 = z_go := eq_of_beq e1
          have e3 : isFigs w1 = true := e3
          rw [e0] at hj
          show joinD [32] [z_go, figs (figsN w1)] = L
          rw [(figs_of e3).2.2]
          exact hj
      · split at h
        · next e =>
          simp only [Bool.and_eq_true, decide_eq_true_eq] at e
          obtain ⟨⟨⟨e1, e2⟩, e3⟩, e4⟩ := e
          split at h
          · next t a hr =>
            split at h
            · next hw =>
              cases h
              have hw := eq_of_beq hw
              have hfg := (figs_of e4).2.2
              show z_unless_ ++ wr t ++ z__go_ ++ figs _ = L
              rw [hfg, hw]
              obtain ⟨W, hWe⟩ : ∃ W, W = splitD 32 L := ⟨_, rfl⟩
              rw [← hWe] at hW e1 e2 e3 e4 hj ⊢
              have gp : W[W.length - 2]? = some W[W.length - 2] := List.getElem?_eq_getElem (by omega)
              have gl : W[W.length - 1]? = some W[W.length - 1] := List.getElem?_eq_getElem (by omega)
              rw [gp] at e3
              have e3 : W[W.length - 2] = z_go := eq_of_beq e3
              rw [gl]
              have hsplit : W = z_unless :: ((W.drop 1).take (W.length - 3) ++ [z_go, W[W.length - 1]]) := by
                have h0 : w0 = z_unless := by rw [hW] at e1; exact eq_of_beq e1
                have d1 : W = w0 :: W.drop 1 := by rw [hW]; rfl
                have d2 : W.drop 1 = (W.drop 1).take (W.length - 3) ++ (W.drop 1).drop (W.length - 3) := (List.take_append_drop _ _).symm
                have d3 : (W.drop 1).drop (W.length - 3) = [W[W.length - 2], W[W.length - 1]] := by
                  rw [List.drop_drop, show 1 + (W.length - 3) = W.length - 2 by omega, List.drop_eq_getElem_cons (by omega : W.length - 2 < W.length)]
                  congr 1
                  rw [List.drop_eq_getElem_cons (by omega : W.length - 2 + 1 < W.length)]
                  have : W.drop (W.length - 2 + 1 + 1) = [] := List.drop_eq_nil_of_le (by omega)
                  rw [this]
                  congr 1
                  congr 1
                  omega
                rw [← e3, ← d3, ← d2, ← h0]
                exact d1
              have hne : (W.drop 1).take (W.length - 3) ≠ [] := by
                intro e
                have := congrArg List.length e
                simp at this; omega
              rw [hsplit, join_cons (by simp), join_app hne (by simp)] at hj
              show z_unless_ ++ joinD [32] ((W.drop 1).take (W.length - 3)) ++ z__go_ ++ W[W.length - 1] = L
              have eg : joinD [32] [z_go, W[W.length - 1]] = z_go ++ [32] ++ W[W.length - 1] := rfl
              rw [eg] at hj
              rw [← hj]
              have k1 : z_unless_ = z_unless ++ [32] := rfl
              have k2 : z__go_ = [32] ++ (z_go ++ [32]) := rfl
              rw [k1, k2]
              simp only [List.append_assoc]
            · cases h
          · cases h
        · cases h
/-- reading what was read -/
theorem linesP_join : ∀ (r : List (List Nat)) (i : Nat) (C : List Ln), linesP r i = .ok C → fmtC C = joinD [10] (r ++ [[]])
  | [], i, C, h => by cases h; rfl
  | L :: r, i, C, h => by
    unfold linesP at h
    split at h
    · cases h
    · next x hx =>
      split at h
      · next C' hC =>
        cases h
        have ih := linesP_join r (i + 1) C' hC
        rw [List.cons_append, join_cons (by simp), ← ih, ← fmt_lineP hx]
        simp [fmtC, z_nl]
      · cases h
theorem split_last (s : List Nat) : splitD 10 s = (splitD 10 s).dropLast ++ [lastW s] := by
  obtain ⟨y, ys, e⟩ := splitD_cons 10 s
  have hne : splitD 10 s ≠ [] := by rw [e]; simp
  have h1 := (List.dropLast_concat_getLast hne).symm
  have h2 : lastW s = (splitD 10 s).getLast hne := by
    unfold lastW
    rw [List.getLast_eq_getElem, List.getElem?_eq_getElem]
    rfl
  rw [h2]; exact h1
theorem readC_fmt {s : List Nat} {C : List Ln} (h : readC s = .ok C) : fmtC C = s ∧ okC C = true := by
  unfold readC at h
  split at h
  · cases h
  · next E hl =>
    split at h
    · next hlast =>
      split at h
      · next ho =>
        cases h
        refine ⟨?_, ho⟩
        have h1 := linesP_join _ _ _ hl
        have h2 := split_last s
        rw [hlast] at h2
        rw [h1, ← h2, join_split]
      · cases h
    · cases h
theorem readC_fine {s : List Nat} {C : List Ln} (h : readC s = .ok C) (hs : s.length ≤ 100000) : (∀ x ∈ C, x.fine = true) ∧ C.length ≤ 100000 := by
  unfold readC at h
  split at h
  · cases h
  · next E hl =>
    have hf := linesP_fine _ _ _ hl fun L hL => Nat.le_trans (split_mem ((List.dropLast_sublist _).subset hL)) hs
    have := split_sum 10 s
    have hlen : E.length ≤ 100000 := by rw [hf.2, List.length_dropLast]; omega
    split at h
    · split at h
      · cases h; exact ⟨hf.1, hlen⟩
      · cases h
    · cases h
theorem lineP_lw {L : List Nat} {x : Ln} (h : lineP L = some x) : lw x ≤ 20 * L.length + 40 := by
  unfold lineP at h
  simp only [] at h
  split at h
  · cases h; simp [lw]
  · split at h
    · cases h; simp [lw]
    · split at h
      · cases h; simp [lw]
      · split at h
        · split at h
          · next t a hr =>
            split at h
            · cases h
              have := (read_ok hr).2.2
              have := told_len L 1 ((splitD 32 L).length - 3)
              simp only [lw]; omega
            · cases h
          · cases h
        · cases h
theorem linesP_lw : ∀ (r : List (List Nat)) (i : Nat) (C : List Ln), linesP r i = .ok C → (C.map fun x => lw x + 2).sum ≤ 20 * (r.map List.length).sum + 42 * r.length
  | [], i, C, h => by cases h; simp
  | L :: r, i, C, h => by
    unfold linesP at h
    split at h
    · cases h
    · next x hx =>
      split at h
      · next C' hC =>
        cases h
        have ih := linesP_lw r (i + 1) C' hC
        have := lineP_lw hx
        simp only [List.map_cons, List.sum_cons, List.length_cons]; omega
      · cases h
theorem readC_lw {s : List Nat} {C : List Ln} (h : readC s = .ok C) : (C.map fun x => lw x + 2).sum ≤ 42 * (s.length + 1) := by
  unfold readC at h
  split at h
  · cases h
  · next E hl =>
    have h1 := linesP_lw _ _ _ hl
    have h2 := split_sum 10 s
    have h3 := sum_sub (List.dropLast_sublist (splitD 10 s))
    have h4 := (List.dropLast_sublist (splitD 10 s)).length_le
    split at h
    · split at h
      · cases h; omega
      · cases h
    · cases h
end Gm.K28

set_option Elab.async false
set_option linter.all false
set_option maxRecDepth 100000
set_option maxHeartbeats 1000000
set_option autoImplicit false
namespace Gm
theorem split_hit {c x : Nat} {r : List Nat} (h : x = c) : splitD c (x :: r) = [] :: splitD c r := by
  conv => lhs; unfold splitD
  rw [if_pos h]
theorem split_miss {c x : Nat} {r : List Nat} (h : ¬ x = c) : splitD c (x :: r) = match splitD c r with
    | [] => [[x]]
    | y :: ys => (x :: y) :: ys := by
  conv => lhs; unfold splitD
  rw [if_neg h]
  all_goals rfl
theorem split_two (c : Nat) : ∀ (l r : List Nat), splitD c (l ++ c :: r) = splitD c l ++ splitD c r
  | [], r => by
    show splitD c (c :: r) = [[]] ++ splitD c r
    conv => lhs; unfold splitD
    rw [if_pos rfl]; rfl
  | x :: l, r => by
    have ih := split_two c l r
    show splitD c (x :: (l ++ c :: r)) = splitD c (x :: l) ++ splitD c r
    obtain ⟨y, ys, e⟩ := splitD_cons c l
    by_cases h : x = c
    · rw [split_hit h, split_hit h, ih]; rfl
    · rw [split_miss h, split_miss h, ih, e]; rfl
end Gm
namespace Gm.K28
open Gm
open L2
def good : Ln → Bool
  | .un t _ => match readP (wr t) with
    | .ok u _ => u == t
    | .err _ _ => false
  | _ => true
theorem lineP_fmt (x : Ln) (h : x.fine = true) (hg : good x = true) : lineP (fmtL x) = some x := by
  cases x with
  | stop => rfl
  | doL n =>
    have hn : isName n = true := h
    have h32 : 32 ∉ n := fun hc => by have := low_ge (name_low hn) 32 hc; omega
    have e : splitD 32 (fmtL (.doL n)) = [z_do, n] := by
      show splitD 32 (z_do ++ 32 :: n) = _
      rw [split_app (by decide), split_no h32]
    have c1 : (fmtL (.doL n) == z_stop) = false := rfl
    unfold lineP
    simp [e, c1, hn]
  | goL g =>
    have hn : g < 1000 := by simpa [Ln.fine] using h
    obtain ⟨f1, f2, f3, f4⟩ := figs_fact hn
    have h32 : 32 ∉ figs (g : Int) := fun hc => by have := f4 32 hc; omega
    have e : splitD 32 (fmtL (.goL g)) = [z_go, figs g] := by
      show splitD 32 (z_go ++ 32 :: figs g) = _
      rw [split_app (by decide), split_no h32]
    have c1 : (fmtL (.goL g) == z_stop) = false := rfl
    have c2 : (z_go == z_do) = false := by decide
    have c3 : figsN (figs (g : Int)) = g := by unfold figsN; rw [f3]; rfl
    have c4 : ¬ z_go = z_do := by decide
    unfold lineP
    simp [e, c1, c4, f2, c3]
  | un t g =>
    simp only [Ln.fine, Bool.and_eq_true, decide_eq_true_eq] at h
    obtain ⟨f1, f2, f3, f4⟩ := figs_fact h.2
    have h32 : 32 ∉ figs (g : Int) := fun hc => by have := f4 32 hc; omega
    have e : splitD 32 (fmtL (.un t g)) = z_unless :: (splitD 32 (wr t) ++ [z_go, figs g]) := by
      have e0 : fmtL (.un t g) = z_unless ++ 32 :: (wr t ++ 32 :: (z_go ++ 32 :: figs g)) := by
        show z_unless_ ++ wr t ++ z__go_ ++ figs g = _
        have k1 : z_unless_ = z_unless ++ [32] := rfl
        have k2 : z__go_ = [32] ++ (z_go ++ [32]) := rfl
        rw [k1, k2]
        simp only [List.append_assoc]; rfl
      rw [e0, split_app (by decide), split_two, split_app (by decide), split_no h32]
    obtain ⟨y, ys, ey⟩ := splitD_cons 32 (wr t)
    have hpos : 1 ≤ (splitD 32 (wr t)).length := by rw [ey]; simp
    have c1 : (fmtL (.un t g) == z_stop) = false := rfl
    have c2 : ¬ z_unless = z_do := by decide
    have c3 : ¬ z_unless = z_go := by decide
    have c5 : figsN (figs (g : Int)) = g := by unfold figsN; rw [f3]; rfl
    have hj := join_split 32 (wr t)
    obtain ⟨V, hV⟩ : ∃ V, V = splitD 32 (wr t) := ⟨_, rfl⟩
    rw [← hV] at e hj hpos
    have l1 : (z_unless :: (V ++ [z_go, figs (g : Int)])).length = V.length + 3 := by simp
    have g1 : (z_unless :: (V ++ [z_go, figs (g : Int)]))[V.length + 3 - 2]? = some z_go := by
      rw [show V.length + 3 - 2 = V.length + 1 by omega, List.getElem?_cons_succ]; simp
    have g2 : (z_unless :: (V ++ [z_go, figs (g : Int)]))[V.length + 3 - 1]? = some (figs (g : Int)) := by
      rw [show V.length + 3 - 1 = V.length + 1 + 1 by omega, List.getElem?_cons_succ]; simp
    have g3 : ((z_unless :: (V ++ [z_go, figs (g : Int)])).drop 1).take (V.length + 3 - 3) = V := by simp
    unfold lineP
    simp only [e, l1, g1, g2, g3, hj, c1]
    have hlen : 3 < V.length + 3 := by omega
    have hr : ∃ a, readP (wr t) = .ok t a := by
      have hg : (match readP (wr t) with
        | .ok u _ => u == t
        | .err _ _ => false) = true := hg
      cases hu : readP (wr t) with
      | ok u a =>
        rw [hu] at hg
        exact ⟨a, by rw [eq_of_beq hg]⟩
      | err p a => rw [hu] at hg; cases hg
    obtain ⟨a, hr⟩ := hr
    simp [c2, c3, hlen, f2, hr, c5]
theorem linesP_all : ∀ (C : List Ln) (i : Nat), (∀ x ∈ C, x.fine = true ∧ good x = true) → linesP (C.map fmtL) i = .ok C
  | [], _, _ => rfl
  | x :: C, i, h => by
    have hx := h x (by simp)
    have ih := linesP_all C (i + 1) fun y hy => h y (List.mem_cons_of_mem _ hy)
    simp only [List.map_cons, linesP, lineP_fmt x hx.1 hx.2, ih]
theorem split_fmt : ∀ C : List Ln, (∀ x ∈ C, 10 ∉ fmtL x) → splitD 10 (fmtC C) = C.map fmtL ++ [[]]
  | [], _ => rfl
  | x :: C, h => by
    have ih := split_fmt C fun y hy => h y (List.mem_cons_of_mem _ hy)
    have e : fmtC (x :: C) = fmtL x ++ 10 :: fmtC C := by simp [fmtC, z_nl]
    rw [e, split_app (h x (by simp)), ih]; rfl
theorem readC_of (C : List Ln) (h : ∀ x ∈ C, x.fine = true ∧ good x = true ∧ 10 ∉ fmtL x) (ho : okC C = true) : readC (fmtC C) = .ok C := by
  have e := split_fmt C fun x hx => (h x hx).2.2
  have hl : lastW (fmtC C) = [] := by
    unfold lastW
    rw [e]; simp
  unfold readC
  rw [hl, e, List.dropLast_concat, linesP_all C 0 fun x hx => ⟨(h x hx).1, (h x hx).2.1⟩]
  simp [ho]
/-! ### the tests that are drawn -/
def T0 : List Te := [.is z_a, .is z_b]
def up (T : List Te) : List Te := T0 ++ [.yes, .no] ++ T.map .not ++ (T.flatMap fun a => T.map fun b => .and a b) ++ (T.flatMap fun a => T.map fun b => .or a b)
def T1 : List Te := up T0
def T2 : List Te := up T1
theorem t2_all : T2.all (fun t => t.ok && decide (t.depth ≤ 10) && decide (t.size ≤ 20) && good (.un t 0) && !(wr t).contains 10 && decide ((wr t).length ≤ 100)) = true := by decide +kernel
end Gm.K28

set_option Elab.async false
set_option linter.all false
set_option maxRecDepth 100000
set_option maxHeartbeats 1000000
set_option autoImplicit false
namespace Gm
theorem op_mul_l {M : Hh} {i j : Int} (h : -18446744073709551616 < i ∧ i < 18446744073709551616) : opMul (.int i) (.int j) M = some (.int (i * j), M) := by
  simp only [opMul, h, and_self, true_or, if_true]
theorem op_mul_r {M : Hh} {i j : Int} (h : -18446744073709551616 < j ∧ j < 18446744073709551616) : opMul (.int i) (.int j) M = some (.int (i * j), M) := by
  simp only [opMul, h, and_self, or_true, if_true]
theorem op_fdiv {M : Hh} {i j : Int} (h : 0 < j ∧ j < 1073741824) : opFdiv (.int i) (.int j) M = some (.int (i / j), M) := by
  simp only [opFdiv, h, and_self, if_true]
theorem op_mod {M : Hh} {i j : Int} (h : 0 < j) : opMod (.int i) (.int j) M = some (.int (i % j), M) := by
  simp only [opMod, h, if_true]
end Gm
namespace Gm.K28
open Gm
open L2
/-! ### the box of digits -/
structure Bx where
  M : Hh
  b : Nat
  s : Nat
  ds : List Int
  hb : b < M.length
  hs : M[s]? = some (.lst (ds.map D.int))
  hne : b ≠ s
def bxO (s a : Nat) : MO := .lst [.loc s, .int a]
def Bx.h (B : Bx) (a : Nat) : Hh := B.M.set B.b (bxO B.s a)
theorem Bx.slt (B : Bx) : B.s < B.M.length := by
  rcases Nat.lt_or_ge B.s B.M.length with h | h
  · exact h
  · have := B.hs
    rw [List.getElem?_eq_none_iff.mpr h] at this; cases this
def Bx.ext (B : Bx) (G : Hh) : Bx := ⟨B.M ++ G, B.b, B.s, B.ds, by have := B.hb; rw [List.length_append]; omega, by rw [List.getElem?_append_left B.slt]; exact B.hs, B.hne⟩
theorem bx_ext (B : Bx) (a : Nat) (G : Hh) : (B.ext G).h a = B.h a ++ G := by
  unfold Bx.h Bx.ext
  rw [List.set_append_left _ _ B.hb]
section
variable (B : Bx) (a c : Nat)
theorem bx_get : (B.h a)[B.b]? = some (.lst [.loc B.s, .int a]) := by unfold Bx.h; simp [B.hb, bxO]
theorem bx_gets : (B.h a)[B.s]? = some (.lst (B.ds.map D.int)) := by
  unfold Bx.h; rw [List.getElem?_set_ne B.hne]; exact B.hs
theorem bx_len : (B.h a).length = B.M.length := by unfold Bx.h; simp
theorem bx_set : (B.h a).set B.b (bxO B.s c) = B.h c := by unfold Bx.h; simp
theorem bx_lt : ltM (B.h a).length (bxO B.s c) = true := by
  have := B.slt
  simp [bxO, ltM, ltDs, ltD, bx_len, this]
end
theorem run_bx {B : Bx} {a c n : Nat} {m : SMs} {ds : List D} {d : D} (h : ∃ G, (m (startD n ds) (B.h a)).res = .ok d (B.h c ++ G)) (hp : pureD d = true) : runF n m ds (B.h a) = .ok d (B.h c) := by
  obtain ⟨G, e⟩ := h
  rw [← bx_set B a c] at e ⊢
  exact run_set ⟨G, e⟩ hp (bx_lt B a c)
def drawV (ds : List Int) (a : Nat) (many : Int) : Int := match ds[a]? with
  | some d => d % many
  | none => ((a : Int) * a * 3 + a * 4 + (a : Int) / 3 + 1) % many
theorem draw_bd (ds : List Int) (a : Nat) (many : Int) (h : 0 < many) : 0 ≤ drawV ds a many ∧ drawV ds a many < many := by
  unfold drawV
  split
  · exact ⟨Int.emod_nonneg _ (by omega), Int.emod_lt_of_pos _ h⟩
  · exact ⟨Int.emod_nonneg _ (by omega), Int.emod_lt_of_pos _ h⟩
noncomputable def mDraw (fM fD fO : Op2) : SMs :=
  sSeq (sAsg (vOp opIx (vVar 0) (vC (.int 1))) (gName 2))
    (sSeq (sAsg (vOp opAdd (vVar 2) (vC (.int 1))) (gIx (vVar 0) (vC (.int 1))))
    (sSeq (sIf (vTest (vOp opLt (vVar 2) (vB fLen (vCons (vOp opIx (vVar 0) (vC (.int 0))) (vNil))))) (sRet (vOp fO (vB fInt (vCons (vOp opIx (vOp opIx (vVar 0) (vC (.int 0))) (vVar 2)) (vNil))) (vVar 1))) (sNil))
    (sRet (vOp fO (vB fInt (vCons (vOp opAdd (vOp opAdd (vOp opAdd (vOp fM (vOp fM (vVar 2) (vVar 2)) (vC (.int 3))) (vOp fM (vVar 2) (vC (.int 4)))) (vOp fD (vVar 2) (vC (.int 3)))) (vC (.int 1))) (vNil))) (vVar 1)))))
theorem draw_gen (B : Bx) (a : Nat) (many : Int) (fM fD fO : Op2)
  (md : ∀ (i : Int) (H : Hh), fO (.int i) (.int many) H = some (.int (i % many), H))
  (m1 : ∀ H : Hh, fM (.int (a : Int)) (.int (a : Int)) H = some (.int ((a : Int) * a), H))
  (m2 : ∀ (i : Int) (H : Hh), fM (.int i) (.int 3) H = some (.int (i * 3), H))
  (m3 : ∀ (i : Int) (H : Hh), fM (.int i) (.int 4) H = some (.int (i * 4), H))
  (m4 : ∀ (i : Int) (H : Hh), fD (.int i) (.int 3) H = some (.int (i / 3), H)) :
  (mDraw fM fD fO (startD 3 [.loc B.b, .int many]) (B.h a)).res = .ok (.int (drawV B.ds a many)) (B.h (a + 1) ++ []) := by
  have i0 : ∀ c : Nat, opIx (.loc B.b) (.int 0) (B.h c) = some (.loc B.s, B.h c) := fun c => by
    simp [opIx, bx_get, atI_0]
  have i1 : ∀ c : Nat, opIx (.loc B.b) (.int 1) (B.h c) = some (.int c, B.h c) := fun c => by
    simp [opIx, bx_get, atI_1]
  have st : setIx (.loc B.b) (.int 1) (.int ((a : Int) + 1)) (B.h a) = some (B.h (a + 1)) := by
    rw [← bx_set B a (a + 1)]
    simp [setIx, bx_get, L2.ixN, bxO]
  have hln : ∀ c : Nat, fLen [.loc B.s] (B.h c) = some (.int B.ds.length, B.h c) := fun c => by
    simp [fLen, bx_gets]
  have hix : ∀ c : Nat, opIx (.loc B.s) (.int (a : Nat)) (B.h c) = (B.ds[a]?).map fun d => (.int d, B.h c) := fun c => by
    rw [op_ix_loc (bx_gets B c), List.getElem?_map]
    cases B.ds[a]? <;> rfl
  have fi : ∀ (i : Int) (H : Hh), fInt [.int i] H = some (.int i, H) := fun _ _ => rfl
  cases hg : B.ds[a]? with
  | some d =>
    have hlt : a < B.ds.length := by
      rcases Nat.lt_or_ge a B.ds.length with h' | h'
      · exact h'
      · rw [List.getElem?_eq_none_iff.mpr h'] at hg; cases hg
    have hlt' : (a : Int) < (B.ds.length : Int) := by omega
    simp [mDraw, start2, i0, i1, st, hln, hlt', hix, hg, fi, md, drawV]
  | none =>
    have hge := List.getElem?_eq_none_iff.mp hg
    have hlt' : ¬ (a : Int) < (B.ds.length : Int) := by omega
    simp [mDraw, start2, i0, i1, st, hln, hlt', fi, md, m1, m2, m3, m4, drawV, hg]
theorem f_draw (B : Bx) (k a : Nat) (many : Int) (h : 0 < many) (ha : a ≤ 1000000) : callF (k + 1) 21 [.loc B.b, .int many] (B.h a) = .ok (.int (drawV B.ds a many)) (B.h (a + 1)) := by
  have h0 : callF (k + 1) 21 = runF 3 (mDraw opMul opFdiv opMod) := rfl
  rw [h0]
  exact run_bx ⟨[], draw_gen B a many opMul opFdiv opMod (fun i H => op_mod h) (fun H => op_mul_l (by omega)) (fun i H => op_mul_r (by omega)) (fun i H => op_mul_r (by omega)) (fun i H => op_fdiv (by omega))⟩ rfl
theorem f_pick (B : Bx) (k a l : Nat) (xs : List D) (hl : (B.h a)[l]? = some (.lst xs)) (hlb : l ≠ B.b) (hne : xs ≠ []) (hp : ∀ x ∈ xs, pureD x = true) (ha : a ≤ 1000000) : ∃ x ∈ xs, callF (k + 2) 22 [.loc B.b, .loc l] (B.h a) = .ok x (B.h (a + 1)) := by
  have hpos : 0 < xs.length := List.length_pos_iff.mpr hne
  obtain ⟨h1, h2⟩ := draw_bd B.ds a (xs.length : Int) (by omega)
  obtain ⟨v, hv⟩ : ∃ v : Nat, drawV B.ds a (xs.length : Int) = (v : Int) := ⟨(drawV B.ds a (xs.length : Int)).toNat, by omega⟩
  have hvl : v < xs.length := by omega
  have hg : xs[v]? = some xs[v] := List.getElem?_eq_getElem hvl
  refine ⟨xs[v], List.getElem_mem hvl, ?_⟩
  have h0 : callF (k + 2) 22 = runF 2 (m__law_pick (callF (k + 1))) := rfl
  rw [h0]
  refine run_bx ⟨[], ?_⟩ (hp _ (List.getElem_mem hvl))
  have hln : fLen [.loc l] (B.h a) = some (.int xs.length, B.h a) := by simp [fLen, hl]
  have hd := f_draw B k a (xs.length : Int) (by omega) ha
  have hl' : (B.h (a + 1))[l]? = some (.lst xs) := by
    rw [← bx_set B a (a + 1), List.getElem?_set_ne hlb.symm]; exact hl
  have hix := op_ix_loc (i := v) hl'
  rw [hg] at hix
  rw [hv] at hd
  simp [m__law_pick, start2, hln, hd, hix]
end Gm.K28

set_option Elab.async false
set_option linter.all false
set_option maxRecDepth 100000
set_option maxHeartbeats 1000000
set_option autoImplicit false
namespace Gm.K28
open Gm
open L2
/-! ### _law_test -/
def tL : Nat → List Te
  | 0 => T0
  | d + 1 => up (tL d)
def cost : Nat → Nat
  | 0 => 2
  | d + 1 => 2 * cost d + 2
abbrev ab : D := .tup [.str z_a, .str z_b]
theorem pick_new (B : Bx) (k a : Nat) (G : Hh) (xs : List D) (hne : xs ≠ []) (hp : ∀ x ∈ xs, pureD x = true) (ha : a ≤ 1000000) : ∃ x ∈ xs, callF (k + 2) 22 [.loc B.b, .loc (B.h a ++ G).length] (B.h a ++ (G ++ [.lst xs])) = .ok x (B.h (a + 1) ++ (G ++ [.lst xs])) := by
  have hg : ((B.ext (G ++ [.lst xs])).h a)[(B.h a ++ G).length]? = some (.lst xs) := by
    rw [bx_ext, ← List.append_assoc]; simp
  have hb : (B.h a ++ G).length ≠ (B.ext (G ++ [.lst xs])).b := by
    have := B.hb
    show (B.h a ++ G).length ≠ B.b
    rw [List.length_append, bx_len]; omega
  obtain ⟨x, hx, h⟩ := f_pick (B.ext (G ++ [.lst xs])) k a _ xs hg hb hne hp ha
  refine ⟨x, hx, ?_⟩
  rw [bx_ext, bx_ext] at h
  exact h
theorem pick_new0 (B : Bx) (k a : Nat) (xs : List D) (hne : xs ≠ []) (hp : ∀ x ∈ xs, pureD x = true) (ha : a ≤ 1000000) : ∃ x ∈ xs, callF (k + 2) 22 [.loc B.b, .loc B.M.length] (B.h a ++ [.lst xs]) = .ok x (B.h (a + 1) ++ [.lst xs]) := by
  obtain ⟨x, hx, h⟩ := pick_new B k a [] xs hne hp ha
  refine ⟨x, hx, ?_⟩
  simpa [bx_len] using h
theorem ab_ne (H : Hh) : opNe ab (.tup []) H = some (.bl true, H) := rfl
theorem t0_of (H : Hh) {x : D} (hx : x ∈ [D.str z_a, D.str z_b]) : ∃ t ∈ T0, t.toD = .tup [.str z_is, x] := by
  rcases List.mem_cons.mp hx with rfl | hx
  · exact ⟨.is z_a, by simp [T0], rfl⟩
  · have := List.mem_singleton.mp hx
    subst this
    exact ⟨.is z_b, by simp [T0], rfl⟩
theorem yn_of (T : List Te) {x : D} (hx : x ∈ [D.tup [.str z_yes], D.tup [.str z_no]]) : ∃ t ∈ up T, t.toD = x := by
  rcases List.mem_cons.mp hx with rfl | hx
  · exact ⟨.yes, by simp [up], rfl⟩
  · have := List.mem_singleton.mp hx
    subst this
    exact ⟨.no, by simp [up], rfl⟩
theorem up_t0 (T : List Te) {t : Te} (h : t ∈ T0) : t ∈ up T := by simp [up, h]
theorem up_not (T : List Te) {t : Te} (h : t ∈ T) : .not t ∈ up T := by simp [up, h]
theorem up_and (T : List Te) {t u : Te} (h : t ∈ T) (h' : u ∈ T) : .and t u ∈ up T := by
  simp only [up, List.mem_append, List.mem_flatMap, List.mem_map]
  exact .inl (.inr ⟨t, h, u, h', rfl⟩)
theorem up_or (T : List Te) {t u : Te} (h : t ∈ T) (h' : u ∈ T) : .or t u ∈ up T := by
  simp only [up, List.mem_append, List.mem_flatMap, List.mem_map]
  exact .inr ⟨t, h, u, h', rfl⟩
theorem f_law_test0 (B : Bx) (k a : Nat) (ha : a ≤ 900000) : ∃ t ∈ tL 0, callF (k + 3) 24 [.loc B.b, ab, .int 0] (B.h a) = .ok t.toD (B.h (a + 2)) := by
  have hd := f_draw B (k + 1) a 3 (by omega) (by omega)
  obtain ⟨h1, h2⟩ := draw_bd B.ds a 3 (by omega)
  obtain ⟨x, hx, hp⟩ := pick_new0 B k (a + 1) [.str z_a, .str z_b] (by simp) (by simp [pureD]) (by omega)
  obtain ⟨t, ht, e⟩ := t0_of (B.h a) hx
  refine ⟨t, ht, ?_⟩
  have h0 : callF (k + 3) 24 = runF 4 (m__law_test (callF (k + 2))) := rfl
  rw [h0]
  refine run_bx ⟨[.lst [.str z_a, .str z_b]], ?_⟩ (Te.pure_toD t)
  rw [e]
  have hfl : fList [ab] (B.h (a + 1)) = some (.loc B.M.length, B.h (a + 1) ++ [.lst [.str z_a, .str z_b]]) := by simp [fList, itemsD, bx_len]
  obtain ⟨v, hv⟩ : ∃ v, v = drawV B.ds a 3 := ⟨_, rfl⟩
  rw [← hv] at hd h1 h2
  simp [m__law_test, start3, hd, h2, ab_ne, hfl, hp]
theorem f_law_test : ∀ (d K : Nat) (B : Bx) (a : Nat), d + 3 ≤ K → a + cost d ≤ 900000 → ∃ t ∈ tL d, ∃ a', a ≤ a' ∧ a' ≤ a + cost d ∧ callF K 24 [.loc B.b, ab, .int d] (B.h a) = .ok t.toD (B.h a') := by
  intro d
  induction d with
  | zero =>
    intro K B a hK ha
    obtain ⟨k, rfl⟩ : ∃ j, K = j + 3 := ⟨K - 3, by omega⟩
    simp only [cost] at ha ⊢
    obtain ⟨t, ht, h⟩ := f_law_test0 B k a (by omega)
    exact ⟨t, ht, a + 2, by omega, by omega, h⟩
  | succ d ih =>
    intro K B a hK ha
    obtain ⟨i, rfl⟩ : ∃ j, K = j + 3 := ⟨K - 3, by omega⟩
    simp only [cost] at ha ⊢
    have hdp : (0 : Int) < ((d + 1 : Nat) : Int) := by omega
    have hds : (((d + 1 : Nat) : Int) - 1) = (d : Int) := by omega
    have hd := f_draw B (i + 1) a 8 (by omega) (by omega)
    obtain ⟨h1, h2⟩ := draw_bd B.ds a 8 (by omega)
    obtain ⟨v, hv⟩ : ∃ v, v = drawV B.ds a 8 := ⟨_, rfl⟩
    rw [← hv] at hd h1 h2
    have h0 : callF (i + 3) 24 = runF 4 (m__law_test (callF (i + 2))) := rfl
    have hfl : fList [ab] (B.h (a + 1)) = some (.loc B.M.length, B.h (a + 1) ++ [.lst [.str z_a, .str z_b]]) := by simp [fList, itemsD, bx_len]
    by_cases c1 : v < 3
    · obtain ⟨x, hx, hp⟩ := pick_new0 B i (a + 1) [.str z_a, .str z_b] (by simp) (by simp [pureD]) (by omega)
      obtain ⟨t, ht, e⟩ := t0_of (B.h a) hx
      refine ⟨t, up_t0 _ ht, a + 2, by omega, by omega, ?_⟩
      rw [h0]
      refine run_bx ⟨[.lst [.str z_a, .str z_b]], ?_⟩ (Te.pure_toD t)
      rw [e]
      simp only [Int.natCast_add, Int.natCast_one] at hdp hds ⊢
      simp [m__law_test, start3, hdp, hd, c1, ab_ne, hfl, hp]
    · by_cases c2 : v = 3
      · obtain ⟨x, hx, hp⟩ := pick_new0 B i (a + 1) [.tup [.str z_yes], .tup [.str z_no]] (by simp) (by simp [pureD, pureDs]) (by omega)
        obtain ⟨t, ht, e⟩ := yn_of (tL d) hx
        refine ⟨t, ht, a + 2, by omega, by omega, ?_⟩
        rw [h0]
        refine run_bx ⟨[.lst [.tup [.str z_yes], .tup [.str z_no]]], ?_⟩ (Te.pure_toD t)
        rw [e]
        subst c2
        simp only [Int.natCast_add, Int.natCast_one] at hdp hds ⊢
        simp [m__law_test, start3, hdp, hd, hp, bx_len]
      · have c2' : (v == 3) = false := by simpa using c2
        by_cases c3 : v < 6
        · obtain ⟨t, ht, a', l1, l2, h⟩ := ih (i + 2) B (a + 1) (by omega) (by omega)
          refine ⟨.not t, up_not _ ht, a', by omega, by omega, ?_⟩
          rw [h0]
          refine run_bx ⟨[], ?_⟩ (Te.pure_toD _)
          simp only [Int.natCast_add, Int.natCast_one] at hdp hds ⊢
          simp [m__law_test, start3, hdp, hd, c1, c2', c3, hds, h, Te.toD]
        · obtain ⟨x, hx, hp⟩ := pick_new0 B i (a + 1) [.str z_and, .str z_or] (by simp) (by simp [pureD]) (by omega)
          obtain ⟨t, ht, a', l1, l2, h⟩ := ih (i + 2) (B.ext [.lst [.str z_and, .str z_or]]) (a + 1 + 1) (by omega) (by omega)
          obtain ⟨u, hu, a'', l3, l4, h'⟩ := ih (i + 2) (B.ext [.lst [.str z_and, .str z_or]]) a' (by omega) (by omega)
          rw [bx_ext, bx_ext] at h h'
          have h : callF (i + 2) 24 [.loc B.b, ab, .int d] (B.h (a + 1 + 1) ++ [.lst [.str z_and, .str z_or]]) = .ok t.toD (B.h a' ++ [.lst [.str z_and, .str z_or]]) := h
          have h' : callF (i + 2) 24 [.loc B.b, ab, .int d] (B.h a' ++ [.lst [.str z_and, .str z_or]]) = .ok u.toD (B.h a'' ++ [.lst [.str z_and, .str z_or]]) := h'
          simp only [Int.natCast_add, Int.natCast_one] at hdp hds
          rcases List.mem_cons.mp hx with rfl | hx
          · refine ⟨.and t u, up_and _ ht hu, a'', by omega, by omega, ?_⟩
            rw [h0]
            refine run_bx ⟨[.lst [.str z_and, .str z_or]], ?_⟩ (Te.pure_toD _)
            simp only [Int.natCast_add, Int.natCast_one]
            simp [m__law_test, start3, hdp, hd, c1, c2', c3, hds, hp, h, h', Te.toD, bx_len]
          · have := List.mem_singleton.mp hx
            subst this
            refine ⟨.or t u, up_or _ ht hu, a'', by omega, by omega, ?_⟩
            rw [h0]
            refine run_bx ⟨[.lst [.str z_and, .str z_or]], ?_⟩ (Te.pure_toD _)
            simp only [Int.natCast_add, Int.natCast_one]
            simp [m__law_test, start3, hdp, hd, c1, c2', c3, hds, hp, h, h', Te.toD, bx_len]
end Gm.K28

set_option Elab.async false
set_option linter.all false
set_option maxRecDepth 100000
set_option maxHeartbeats 1000000
set_option autoImplicit false
namespace Gm.K28
open Gm
open L2
/-! ### _law_code -/
def drawn (many : Nat) : Ln → Bool
  | .doL n => n == z_p || n == z_q || n == z_abcdef
  | .goL g => decide (g ≤ many)
  | .un t g => decide (t ∈ T2) && decide (g ≤ many)
  | .stop => true
noncomputable def bCode (k : Nat) : SMs := (sSeq (sPar 4 5 (vCallN 2 (callF k 21) (vCons (vVar 0) (vCons (vC (.int 8)) (vNil)))) (vCallN 2 (callF k 21) (vCons (vVar 0) (vCons (vOp opAdd (vVar 1) (vC (.int 1))) (vNil)))))
    (sIf (vTest (vOp opLt (vVar 4) (vC (.int 2)))) (sExpr (vM "list" mAppend (vVar 2) (vCons (vTup (vCons (vC (.str z_do)) (vCons (vCallN 2 (callF k 22) (vCons (vVar 0) (vCons (vLst (vCons (vC (.str z_p)) (vCons (vC (.str z_q)) (vCons (vC (.str z_abcdef)) (vNil))))) (vNil)))) (vNil)))) (vNil)))) (sIf (vTest (vOp opLt (vVar 4) (vC (.int 4)))) (sExpr (vM "list" mAppend (vVar 2) (vCons (vTup (vCons (vC (.str z_go)) (vCons (vB fInt (vCons (vVar 5) (vNil))) (vNil)))) (vNil)))) (sIf (vTest (vOp opLt (vVar 4) (vC (.int 7)))) (sExpr (vM "list" mAppend (vVar 2) (vCons (vTup (vCons (vC (.str z_unless)) (vCons (vCallN 3 (callF k 24) (vCons (vVar 0) (vCons (vTup (vCons (vC (.str z_a)) (vCons (vC (.str z_b)) (vNil)))) (vCons (vC (.int 2)) (vNil))))) (vCons (vB fInt (vCons (vVar 5) (vNil))) (vNil))))) (vNil)))) (sExpr (vM "list" mAppend (vVar 2) (vCons (vTup (vCons (vC (.str z_stop)) (vNil))) (vNil))))))))
theorem draw_g (B : Bx) (k a : Nat) (many : Int) (G : Hh) (h : 0 < many) (ha : a ≤ 1000000) : callF (k + 1) 21 [.loc B.b, .int many] (B.h a ++ G) = .ok (.int (drawV B.ds a many)) (B.h (a + 1) ++ G) := by
  have := f_draw (B.ext G) k a many h ha
  rw [bx_ext, bx_ext] at this
  exact this
theorem test_g (B : Bx) (d K a : Nat) (G : Hh) (hK : d + 3 ≤ K) (ha : a + cost d ≤ 900000) : ∃ t ∈ tL d, ∃ a', a ≤ a' ∧ a' ≤ a + cost d ∧ callF K 24 [.loc B.b, ab, .int d] (B.h a ++ G) = .ok t.toD (B.h a' ++ G) := by
  obtain ⟨t, ht, a', l1, l2, h⟩ := f_law_test d K (B.ext G) a hK ha
  rw [bx_ext, bx_ext] at h
  exact ⟨t, ht, a', l1, l2, h⟩
theorem mid_get (B : Bx) (a : Nat) (A : List D) (G : Hh) : (B.h a ++ .lst A :: G)[B.M.length]? = some (.lst A) := by
  have := get_mid (M := B.h a) (o := .lst A) (G := G)
  rw [bx_len] at this
  exact this
theorem mid_set (B : Bx) (a : Nat) (A A' : List D) (G : Hh) : (B.h a ++ .lst A :: G).set B.M.length (.lst A') = B.h a ++ .lst A' :: G := by
  have := set_mid (M := B.h a) (o := .lst A) (o' := .lst A') (G := G)
  rw [bx_len] at this
  exact this
theorem code_body (B : Bx) (i a many : Nat) (A : List D) (G : Hh) (x3 x4 x5 : Option D) (hA : A.length ≤ 1000) (ha : a ≤ 800000) (hm : many ≤ 9) : ∃ x a' G' y4 y5, drawn many x = true ∧ a ≤ a' ∧ a' ≤ a + 16 ∧
    bCode (i + 5) [some (.loc B.b), some (.int many), some (.loc B.M.length), x3, x4, x5] (B.h a ++ .lst A :: G) = .nx [some (.loc B.b), some (.int many), some (.loc B.M.length), x3, y4, y5] (B.h a' ++ .lst (A ++ [x.toD]) :: G') := by
  have hA' : A.length < 16777216 := by omega
  have hd1 := draw_g B (i + 4) a 8 (.lst A :: G) (by omega) (by omega)
  have hd2 := draw_g B (i + 4) (a + 1) ((many : Int) + 1) (.lst A :: G) (by omega) (by omega)
  obtain ⟨p1, p2⟩ := draw_bd B.ds a 8 (by omega)
  obtain ⟨q1, q2⟩ := draw_bd B.ds (a + 1) ((many : Int) + 1) (by omega)
  obtain ⟨v, hv⟩ : ∃ v, v = drawV B.ds a 8 := ⟨_, rfl⟩
  obtain ⟨g, hg⟩ : ∃ g : Nat, drawV B.ds (a + 1) ((many : Int) + 1) = (g : Int) := ⟨(drawV B.ds (a + 1) ((many : Int) + 1)).toNat, by omega⟩
  rw [← hv] at hd1 p1 p2
  rw [hg] at hd2 q1 q2
  have hgl : g ≤ many := by omega
  have fi : ∀ (j : Int) (H : Hh), fInt [.int j] H = some (.int j, H) := fun _ _ => rfl
  by_cases c1 : v < 2
  · obtain ⟨x, hx, hp⟩ := pick_new B (i + 3) (a + 2) (.lst A :: G) [.str z_p, .str z_q, .str z_abcdef] (by simp) (by simp [pureD]) (by omega)
    have hx' : ∃ n, x = .str n ∧ drawn many (.doL n) = true := by
      simp only [List.mem_cons, List.not_mem_nil, or_false] at hx
      rcases hx with rfl | rfl | rfl
      · exact ⟨_, rfl, rfl⟩
      · exact ⟨_, rfl, rfl⟩
      · exact ⟨_, rfl, rfl⟩
    obtain ⟨n, rfl, hn⟩ := hx'
    refine ⟨.doL n, a + 3, G ++ [.lst [.str z_p, .str z_q, .str z_abcdef]], some (.int v), some (.int g), hn, by omega, by omega, ?_⟩
    simp [bx_len] at hp
    simp [bCode, hd1, hd2, c1, hp, bx_len, tyM, mid_get, mid_set, mAppend, hA', Ln.toD]
  · by_cases c2 : v < 4
    · refine ⟨.goL g, a + 2, G, some (.int v), some (.int g), by simp [drawn, hgl], by omega, by omega, ?_⟩
      simp [bCode, hd1, hd2, c1, c2, fi, tyM, mid_get, mid_set, mAppend, hA', Ln.toD]
    · by_cases c3 : v < 7
      · obtain ⟨t, ht, a', l1, l2, h⟩ := test_g B 2 (i + 5) (a + 2) (.lst A :: G) (by omega) (by simp [cost]; omega)
        have ht2 : t ∈ T2 := ht
        refine ⟨.un t g, a', G, some (.int v), some (.int g), by simp [drawn, hgl, ht2], by omega, by simp [cost] at l2; omega, ?_⟩
        have h : callF (i + 5) 24 [.loc B.b, ab, .int 2] (B.h (a + 2) ++ .lst A :: G) = .ok t.toD (B.h a' ++ .lst A :: G) := h
        simp [bCode, hd1, hd2, c1, c2, c3, fi, h, tyM, mid_get, mid_set, mAppend, hA', Ln.toD]
      · refine ⟨.stop, a + 2, G, some (.int v), some (.int g), rfl, by omega, by omega, ?_⟩
        simp [bCode, hd1, hd2, c1, c2, c3, tyM, mid_get, mid_set, mAppend, hA', Ln.toD]
theorem code_loop (B : Bx) (i many : Nat) (hm : many ≤ 9) : ∀ (r j n a : Nat) (A : List Ln) (G : Hh) (x3 x4 x5 : Option D), j + r = many → r < n → a + 16 * r ≤ 700000 → A.length ≤ j →
    ∃ C a' G' e3 e4 e5, (∀ x ∈ C, drawn many x = true) ∧ C.length = r ∧ a ≤ a' ∧ a' ≤ a + 16 * r ∧ loopF (itR 0 many) (gName 3) (bCode (i + 5)) n j [some (.loc B.b), some (.int many), some (.loc B.M.length), x3, x4, x5] (B.h a ++ .lst (A.map Ln.toD) :: G) = .nx [some (.loc B.b), some (.int many), some (.loc B.M.length), e3, e4, e5] (B.h a' ++ .lst ((A ++ C).map Ln.toD) :: G') := by
  intro r
  induction r with
  | zero =>
    intro j n a A G x3 x4 x5 hj hn ha hA
    obtain ⟨n, rfl⟩ : ∃ q, n = q + 1 := ⟨n - 1, by omega⟩
    have hj' : ¬ j < many := by omega
    exact ⟨[], a, G, x3, x4, x5, by simp, rfl, by omega, by omega, by simp [loopF, itR, hj']⟩
  | succ r ih =>
    intro j n a A G x3 x4 x5 hj hn ha hA
    obtain ⟨n, rfl⟩ : ∃ q, n = q + 1 := ⟨n - 1, by omega⟩
    have hj' : j < many := by omega
    obtain ⟨x, a1, G1, y4, y5, hd, l1, l2, hb⟩ := code_body B i a many (A.map Ln.toD) G (some (.int j)) x4 x5 (by simp; omega) (by omega) hm
    obtain ⟨C, a2, G2, e3, e4, e5, hC, hl, l3, l4, h⟩ := ih (j + 1) n a1 (A ++ [x]) G1 (some (.int j)) y4 y5 (by omega) (by omega) (by omega) (by simp; omega)
    refine ⟨x :: C, a2, G2, e3, e4, e5, ?_, by simp [hl], by omega, by omega, ?_⟩
    · intro y hy
      rcases List.mem_cons.mp hy with rfl | hy
      · exact hd
      · exact hC y hy
    · rw [List.map_append] at h
      have e : A ++ x :: C = A ++ [x] ++ C := by simp
      rw [e, ← h]
      simp [loopF, itR, hj', hb]
theorem drawn_ok {many : Nat} (hm : many ≤ 9) (x : Ln) (h : drawn many x = true) : x.fine = true ∧ good x = true ∧ 10 ∉ fmtL x ∧ x.fits many = true ∧ (fmtL x).length ≤ 130 ∧ lw x ≤ 420 := by
  cases x with
  | stop => exact ⟨by decide, rfl, by decide, rfl, by decide, by decide⟩
  | doL n =>
    simp only [drawn, Bool.or_eq_true] at h
    rcases h with (h | h) | h
    · rw [eq_of_beq h]; exact ⟨by decide, rfl, by decide, rfl, by decide, by decide⟩
    · rw [eq_of_beq h]; exact ⟨by decide, rfl, by decide, rfl, by decide, by decide⟩
    · rw [eq_of_beq h]; exact ⟨by decide, rfl, by decide, rfl, by decide, by decide⟩
  | goL g =>
    have hg : g ≤ many := by simpa [drawn] using h
    obtain ⟨f1, f2, f3, f4⟩ := figs_fact (g := g) (by omega)
    refine ⟨by simp [Ln.fine]; omega, rfl, ?_, by simp [Ln.fits, hg], ?_, by simp [lw]⟩
    · intro hc
      have hc : 10 ∈ [103, 111, 32] ++ figs (g : Int) := hc
      rcases List.mem_append.mp hc with hc | hc
      · simp at hc
      · have := f4 10 hc; omega
    · show ([103, 111, 32] ++ figs (g : Int)).length ≤ 130
      simp; omega
  | un t g =>
    simp only [drawn, Bool.and_eq_true, decide_eq_true_eq] at h
    obtain ⟨f1, f2, f3, f4⟩ := figs_fact (g := g) (by omega)
    have ht := List.all_eq_true.mp t2_all t h.1
    simp only [Bool.and_eq_true, decide_eq_true_eq, Bool.not_eq_true'] at ht
    obtain ⟨⟨⟨⟨⟨t1, t2⟩, t3⟩, t4⟩, t5⟩, t6⟩ := ht
    have z1 : z_unless_.length = 7 := rfl
    have z2 : z__go_.length = 4 := rfl
    refine ⟨?_, t4, ?_, by simp [Ln.fits, h.2], ?_, by simp [lw]; omega⟩
    · simp only [Ln.fine, Bool.and_eq_true, decide_eq_true_eq]
      exact ⟨⟨⟨t1, t2⟩, by omega⟩, by omega⟩
    · intro hc
      have hc : 10 ∈ z_unless_ ++ wr t ++ z__go_ ++ figs (g : Int) := hc
      simp only [List.mem_append] at hc
      rcases hc with ((hc | hc) | hc) | hc
      · exact absurd hc (by decide)
      · rw [List.contains_iff_mem.mpr hc] at t5; cases t5
      · exact absurd hc (by decide)
      · have := f4 10 hc; omega
    · simp only [fmtL, List.length_append]; omega
theorem code_run (B : Bx) (i a v : Nat) (C : List Ln) (a' : Nat) (G' : Hh) (e3 e4 e5 : Option D) (r : SMo IterD) (hr : ∀ (env : Ev) (H : Hh), env[1]? = some (some (.int ((1 + v : Nat) : Int))) → r env H = .ok (itR 0 (1 + v)) H)
  (hd : callF (i + 5) 21 [.loc B.b, .int 9] (B.h a) = .ok (.int v) (B.h (a + 1)))
  (h : loopF (itR 0 (1 + v)) (gName 3) (bCode (i + 5)) NN 0 [some (.loc B.b), some (.int ((1 + v : Nat) : Int)), some (.loc B.M.length), none, none, none] (B.h (a + 1) ++ [.lst []]) = .nx [some (.loc B.b), some (.int ((1 + v : Nat) : Int)), some (.loc B.M.length), e3, e4, e5] (B.h a' ++ .lst (C.map Ln.toD) :: G')) :
  ((sSeq (sAsg (vOp opAdd (vC (.int 1)) (vCallN 2 (callF (i + 5) 21) (vCons (vVar 0) (vCons (vC (.int 9)) (vNil))))) (gName 1)) (sSeq (sAsg (vLst (vNil)) (gName 2)) (sSeq (sFor r (gName 3) (bCode (i + 5))) (sRet (vB fTuple (vCons (vVar 2) (vNil))))))) (startD 6 [.loc B.b]) (B.h a)).res = .ok (codeD C) (B.h a' ++ (.lst (C.map Ln.toD) :: G')) := by
  have e1 : (1 : Int) + (v : Int) = ((1 + v : Nat) : Int) := by omega
  have hft : fTuple [.loc B.M.length] (B.h a' ++ .lst (C.map Ln.toD) :: G') = some (codeD C, B.h a' ++ .lst (C.map Ln.toD) :: G') := by
    simp [fTuple, itemsD, mid_get, codeD]
  obtain ⟨w, hw⟩ : ∃ w : Int, w = ((1 + v : Nat) : Int) := ⟨_, rfl⟩
  rw [← hw] at e1 h hr
  rw [start1]
  simp only [es_seq, es_asg, ev_op, ev_C, ev_call, ev_cons, ev_nil, ev_var, List.replicate, List.getElem?_cons_zero, Res.bind_ok, List.length_cons, List.length_nil, hd]
  simp only [es_seq, es_asg, if_true, Res.bind_ok, hd, op_add_int, Res.ofO_some, Res.st_ok, es_name, RS.bind_nx, List.set_cons_succ, List.set_cons_zero, e1, ev_lst, ev_nil, List.length_nil, Nat.zero_le, es_for, bx_len]
  rw [hr _ _ rfl]
  simp only [Res.st_ok]
  rw [h]
  simp [hft]
theorem f_law_code (B : Bx) (i a : Nat) (ha : a ≤ 100000) : ∃ many C a', many ≤ 9 ∧ C.length = many ∧ (∀ x ∈ C, drawn many x = true) ∧ a ≤ a' ∧ a' ≤ a + 200 ∧ callF (i + 6) 27 [.loc B.b] (B.h a) = .ok (codeD C) (B.h a') := by
  have hd := f_draw B (i + 4) a 9 (by omega) (by omega)
  obtain ⟨p1, p2⟩ := draw_bd B.ds a 9 (by omega)
  obtain ⟨v, hv⟩ : ∃ v : Nat, drawV B.ds a 9 = (v : Int) := ⟨(drawV B.ds a 9).toNat, by omega⟩
  rw [hv] at hd p1 p2
  obtain ⟨C, a', G', e3, e4, e5, hC, hl, l1, l2, h⟩ := code_loop B i (1 + v) (by omega) (1 + v) 0 NN (a + 1) [] [] none none none (by omega) (by unfold NN; omega) (by omega) (by simp)
  refine ⟨1 + v, C, a', by omega, hl, hC, by omega, by omega, ?_⟩
  have h0 : callF (i + 6) 27 = runF 6 (sSeq (sAsg (vOp opAdd (vC (.int 1)) (vCallN 2 (callF (i + 5) 21) (vCons (vVar 0) (vCons (vC (.int 9)) (vNil))))) (gName 1)) (sSeq (sAsg (vLst (vNil)) (gName 2)) (sSeq (sFor (vRange1 (vVar 1)) (gName 3) (bCode (i + 5))) (sRet (vB fTuple (vCons (vVar 2) (vNil))))))) := rfl
  rw [h0]
  refine run_bx ⟨.lst (C.map Ln.toD) :: G', ?_⟩ (code_pure C)
  simp only [List.nil_append, List.map_nil] at h
  exact code_run B i a v C a' G' e3 e4 e5 (vRange1 (vVar 1)) (fun env H he => range1_ok (by simp only [ev_var, he]) (small_nat (by omega))) hd h
end Gm.K28

set_option Elab.async false
set_option linter.all false
set_option maxRecDepth 100000
set_option maxHeartbeats 1000000
set_option autoImplicit false
namespace Gm
theorem cut_len {α : Type} {xs : List α} {lo hi : Option Int} : (cutD xs lo hi).length ≤ xs.length := by
  unfold cutD
  rw [List.length_take, List.length_drop]; omega
theorem cut_map {α β : Type} (f : α → β) (xs : List α) (lo hi : Option Int) : cutD (xs.map f) lo hi = (cutD xs lo hi).map f := by
  unfold cutD
  rw [List.length_map, List.map_take, List.map_drop]
theorem cut_sub {α : Type} {xs : List α} {lo hi : Option Int} : List.Sublist (cutD xs lo hi) xs := (List.take_sublist _ _).trans (List.drop_sublist _ _)
theorem sl_str {M : Hh} {s : List Nat} {lo hi : Option Int} (h : s.length ≤ 16777216) : slD (.str s) lo hi M = some (.str (cutD s lo hi), M) := if_pos h
/-- the expression makes a new list of texts, no longer than n with a sign for each -/
def IsL (r : Res D) (M : Hh) (n : Nat) : Prop := ∃ (l : Nat) (ss : List (List Nat)) (G : Hh), r = .ok (.loc l) (M ++ G) ∧ (M ++ G)[l]? = some (.lst (ss.map D.str)) ∧ (ss.map List.length).sum + ss.length ≤ n
theorem isL_sl {M : Hh} {env : Ev} {a : SMo D} {lo hi : SMp} {o p : Option Int} {l n : Nat} {ss : List (List Nat)} (ha : a env M = .ok (.loc l) M) (h1 : lo env M = .ok o M) (h2 : hi env M = .ok p M) (hl : M[l]? = some (.lst (ss.map D.str))) (hn : (ss.map List.length).sum + ss.length ≤ n) : IsL (vSl a lo hi env M) M n := by
  refine ⟨M.length, cutD ss o p, [.lst ((cutD ss o p).map D.str)], ?_, by simp, ?_⟩
  · simp [ha, h1, h2, slD, hl, cut_map]
  · have h3 := (cut_sub (xs := ss) (lo := o) (hi := p)).length_le
    have h4 : ((cutD ss o p).map List.length).sum ≤ (ss.map List.length).sum := by
      exact sum_sub cut_sub
    omega
theorem isL_add {M : Hh} {env : Ev} {a b : SMo D} {m n : Nat} (ha : IsL (a env M) M m) (hb : ∀ G, IsL (b env (M ++ G)) (M ++ G) n) (hmn : m + n ≤ 16777216) : IsL (vOp opAdd a b env M) M (m + n) := by
  obtain ⟨l, ss, G, e1, g1, l1⟩ := ha
  obtain ⟨l', ss', G', e2, g2, l2⟩ := hb G
  have g1' : (M ++ G ++ G')[l]? = some (.lst (ss.map D.str)) := by
    have hl : l < (M ++ G).length := (List.getElem?_eq_some_iff.mp g1).1
    rw [List.getElem?_append_left hl]; exact g1
  refine ⟨(M ++ G ++ G').length, ss ++ ss', G ++ (G' ++ [.lst ((ss ++ ss').map D.str)]), ?_, ?_, ?_⟩
  · have hle : (ss.map D.str).length + (ss'.map D.str).length ≤ 16777216 := by simp; omega
    simp only [ev_op, e1, Res.bind_ok, e2, opAdd, g1', g2]
    rw [if_pos hle]
    simp
  · have : M ++ (G ++ (G' ++ [MO.lst ((ss ++ ss').map D.str)])) = (M ++ G ++ G') ++ [.lst ((ss ++ ss').map D.str)] := by simp
    rw [this]; simp
  · simp; omega
theorem isL_join {M : Hh} {env : Ev} {a : SMo D} {n c : Nat} (h : IsL (a env M) M n) (hn : n ≤ 16777216) : ∃ s G, s.length ≤ n ∧ vM "str" mJoin (vC (.str [c])) (vCons a vNil) env M = .ok (.str s) (M ++ G) := by
  obtain ⟨l, ss, G, e, g, hl⟩ := h
  refine ⟨joinD [c] ss, G, ?_, ?_⟩
  · have := join_len [c] ss
    simp only [List.length_singleton] at this; omega
  · have hle : (ss.map List.length).sum + ss.length * 1 ≤ 16777216 := by omega
    have hs := strs_map ss
    simp only [ev_m, ev_C, Res.bind_ok, tyM, ev_cons, e, ev_nil, mJoin, itemsD, g, Option.bind_some, hs, List.length_singleton]
    simp only [hle, if_true, tyM, hs, Res.bind_ok, Option.bind_some, Res.ofO_some]
    rfl
end Gm
namespace Gm.K28
open Gm
open L2
/-! ### _law_bent_text -/
theorem loc_str {M : Hh} {l : Nat} {xs : List D} (h : M[l]? = some (.lst xs)) : l < M.length := by
  rcases Nat.lt_or_ge l M.length with h' | h'
  · exact h'
  · rw [List.getElem?_eq_none_iff.mpr h'] at h; cases h
/-- a box with a text's lines behind it -/
theorem pick_at (B : Bx) (k a l : Nat) (G : Hh) (xs : List D) (hl : B.M[l]? = some (.lst xs)) (hlb : l ≠ B.b) (hne : xs ≠ []) (hp : ∀ x ∈ xs, pureD x = true) (ha : a ≤ 1000000) : ∃ x ∈ xs, callF (k + 2) 22 [.loc B.b, .loc l] (B.h a ++ G) = .ok x (B.h (a + 1) ++ G) := by
  have hlt := loc_str hl
  have hg : ((B.ext G).h a)[l]? = some (.lst xs) := by
    rw [bx_ext, List.getElem?_append_left (by rw [bx_len]; exact hlt)]
    unfold Bx.h
    rw [List.getElem?_set_ne hlb.symm]; exact hl
  obtain ⟨x, hx, h⟩ := f_pick (B.ext G) k a l xs hg hlb hne hp ha
  refine ⟨x, hx, ?_⟩
  rw [bx_ext, bx_ext] at h
  exact h
noncomputable def mAt (fM fO : Op2) (k : Nat) : SMo D := vOp fO (vB fInt (vCons (vOp opAdd (vOp fM (vCallN 2 (callF k 21) (vCons (vVar 0) (vCons (vC (.int 1009)) (vNil)))) (vC (.int 1009))) (vCallN 2 (callF k 21) (vCons (vVar 0) (vCons (vC (.int 1009)) (vNil))))) (vNil))) (vOp opAdd (vB fLen (vCons (vVar 1) (vNil))) (vC (.int 1)))
theorem at_gen (B : Bx) (k a n : Nat) (G : Hh) (s : List Nat) (fM fO : Op2) (env : Ev) (h0 : env[0]? = some (some (.loc B.b))) (h1 : env[1]? = some (some (.str s))) (hs : s.length ≤ 16777216) (ha : a ≤ 900000)
  (m1 : ∀ (i : Int) (H : Hh), fM (.int i) (.int 1009) H = some (.int (i * 1009), H))
  (m2 : ∀ (i : Int) (H : Hh), fO (.int i) (.int ((s.length : Int) + 1)) H = some (.int (i % ((s.length : Int) + 1)), H)) :
  ∃ p : Nat, mAt fM fO (k + 1) env (B.h a ++ G) = .ok (.int p) (B.h (a + 2) ++ G) := by
  have hd1 := draw_g B k a 1009 G (by omega) (by omega)
  have hd2 := draw_g B k (a + 1) 1009 G (by omega) (by omega)
  have fi : ∀ (i : Int) (H : Hh), fInt [.int i] H = some (.int i, H) := fun _ _ => rfl
  obtain ⟨v, hv⟩ : ∃ v, v = drawV B.ds a 1009 := ⟨_, rfl⟩
  obtain ⟨w, hw⟩ : ∃ w, w = drawV B.ds (a + 1) 1009 := ⟨_, rfl⟩
  rw [← hv] at hd1
  rw [← hw] at hd2
  refine ⟨((v * 1009 + w) % ((s.length : Int) + 1)).toNat, ?_⟩
  have e : ((((v * 1009 + w) % ((s.length : Int) + 1)).toNat : Nat) : Int) = (v * 1009 + w) % ((s.length : Int) + 1) := Int.toNat_of_nonneg (Int.emod_nonneg _ (by omega))
  rw [e]
  simp [mAt, h0, h1, hd1, hd2, fi, m1, m2, len_str hs]
theorem at_ok (B : Bx) (k a : Nat) (G : Hh) (s : List Nat) (env : Ev) (h0 : env[0]? = some (some (.loc B.b))) (h1 : env[1]? = some (some (.str s))) (hs : s.length ≤ 16777216) (ha : a ≤ 900000) :
  ∃ p : Nat, mAt opMul opMod (k + 1) env (B.h a ++ G) = .ok (.int p) (B.h (a + 2) ++ G) := at_gen B k a 0 G s opMul opMod env h0 h1 hs ha (fun i H => op_mul_r (by omega)) (fun i H => op_mod (by omega))
noncomputable def bentB (k : Nat) : SMs := (sSeq (sIf (vTest (vOp opEq (vVar 3) (vC (.int 0)))) (sRet (vOp opAdd (vSl (vVar 1) (vNo) (vPart (vVar 5))) (vSl (vVar 1) (vPart (vOp opAdd (vVar 5) (vC (.int 1)))) (vNo)))) (sNil))
    (sSeq (sIf (vTest (vOp opEq (vVar 3) (vC (.int 1)))) (sRet (vOp opAdd (vOp opAdd (vSl (vVar 1) (vNo) (vPart (vVar 5))) (vSl (vVar 1) (vPart (vVar 5)) (vPart (vOp opAdd (vVar 5) (vC (.int 1)))))) (vSl (vVar 1) (vPart (vVar 5)) (vNo)))) (sNil))
    (sSeq (sIf (vTest (vOp opEq (vVar 3) (vC (.int 2)))) (sRet (vOp opAdd (vOp opAdd (vSl (vVar 1) (vNo) (vPart (vVar 5))) (vCallN 2 (callF k 22) (vCons (vVar 0) (vCons (vVar 2) (vNil))))) (vSl (vVar 1) (vPart (vOp opAdd (vVar 5) (vC (.int 1)))) (vNo)))) (sNil))
    (sSeq (sIf (vTest (vOp opEq (vVar 3) (vC (.int 3)))) (sRet (vOp opAdd (vOp opAdd (vOp opAdd (vSl (vVar 1) (vNo) (vPart (vVar 5))) (vSl (vVar 1) (vPart (vOp opAdd (vVar 5) (vC (.int 1)))) (vPart (vOp opAdd (vVar 5) (vC (.int 2)))))) (vSl (vVar 1) (vPart (vVar 5)) (vPart (vOp opAdd (vVar 5) (vC (.int 1)))))) (vSl (vVar 1) (vPart (vOp opAdd (vVar 5) (vC (.int 2)))) (vNo)))) (sNil))
    (sSeq (sIf (vTest (vOp opEq (vVar 3) (vC (.int 4)))) (sRet (vM "str" mJoin (vC (.str z_nl)) (vCons (vOp opAdd (vSl (vVar 4) (vNo) (vPart (vVar 6))) (vSl (vVar 4) (vPart (vOp opAdd (vVar 6) (vC (.int 1)))) (vNo))) (vNil)))) (sNil))
    (sSeq (sIf (vTest (vOp opEq (vVar 3) (vC (.int 5)))) (sRet (vM "str" mJoin (vC (.str z_nl)) (vCons (vOp opAdd (vOp opAdd (vSl (vVar 4) (vNo) (vPart (vVar 6))) (vSl (vVar 4) (vPart (vVar 6)) (vPart (vOp opAdd (vVar 6) (vC (.int 1)))))) (vSl (vVar 4) (vPart (vVar 6)) (vNo))) (vNil)))) (sNil))
    (sSeq (sIf (vTest (vOp opEq (vVar 3) (vC (.int 6)))) (sRet (vM "str" mJoin (vC (.str z_nl)) (vCons (vOp opAdd (vOp opAdd (vOp opAdd (vSl (vVar 4) (vNo) (vPart (vVar 6))) (vSl (vVar 4) (vPart (vOp opAdd (vVar 6) (vC (.int 1)))) (vPart (vOp opAdd (vVar 6) (vC (.int 2)))))) (vSl (vVar 4) (vPart (vVar 6)) (vPart (vOp opAdd (vVar 6) (vC (.int 1)))))) (vSl (vVar 4) (vPart (vOp opAdd (vVar 6) (vC (.int 2)))) (vNo))) (vNil)))) (sNil))
    (sSeq (sIf (vTest (vOp opEq (vVar 3) (vC (.int 7)))) (sRet (vOp opAdd (vOp opAdd (vSl (vVar 1) (vNo) (vPart (vVar 5))) (vCallN 2 (callF k 22) (vCons (vVar 0) (vCons (vVar 2) (vNil))))) (vSl (vVar 1) (vPart (vVar 5)) (vNo)))) (sNil))
    (sRet (vCallN 2 (callF k 22) (vCons (vVar 0) (vCons (vLst (vCons (vSl (vVar 1) (vNo) (vPart (vNeg (vC (.int 1))))) (vCons (vOp opAdd (vVar 1) (vC (.str z_nl))) (vCons (vOp opAdd (vVar 1) (vC (.str z_sp))) (vCons (vOp opAdd (vC (.str z_sp)) (vVar 1)) (vCons (vC (.str z_empty)) (vCons (vC (.str z_nl)) (vNil)))))))) (vNil)))))))))))))
def bE (B : Bx) (s : List Nat) (l v p r : Nat) : Ev := [some (.loc B.b), some (.str s), some (.loc l), some (.int v), some (.loc B.M.length), some (.int p), some (.int r)]
theorem bent_body (B : Bx) (k a l v p r : Nat) (s : List Nat) (sg : List D) (hl : B.M[l]? = some (.lst sg)) (hlb : l ≠ B.b) (hne : sg ≠ []) (hsg : ∀ x ∈ sg, ∃ z, x = .str z ∧ z.length ≤ 2) (hs : s.length ≤ 100000) (ha : a ≤ 900000) :
    ∃ s' c G, s'.length ≤ 5 * s.length + 10 ∧ a ≤ c ∧ c ≤ a + 1 ∧ (bentB (k + 2) (bE B s l v p r) (B.h a ++ [.lst ((splitD 10 s).map D.str)])).res = .ok (.str s') (B.h c ++ G) := by
  obtain ⟨W, hW⟩ : ∃ W : Hh, W = [.lst ((splitD 10 s).map D.str)] := ⟨_, rfl⟩
  have hsl : ∀ (lo hi : Option Int) (H : Hh), slD (.str s) lo hi H = some (.str (cutD s lo hi), H) := fun lo hi H => sl_str (by omega)
  have hcl : ∀ lo hi : Option Int, (cutD s lo hi).length ≤ s.length := fun lo hi => cut_len
  have e5 : (bE B s l v p r)[5]? = some (some (.int p)) := rfl
  have e1 : (bE B s l v p r)[1]? = some (some (.str s)) := rfl
  have e4 : (bE B s l v p r)[4]? = some (some (.loc B.M.length)) := rfl
  have e6 : (bE B s l v p r)[6]? = some (some (.int r)) := rfl
  have e0 : (bE B s l v p r)[0]? = some (some (.loc B.b)) := rfl
  have e2 : (bE B s l v p r)[2]? = some (some (.loc l)) := rfl
  have e3 : (bE B s l v p r)[3]? = some (some (.int v)) := rfl
  have eq3 : ∀ (n : Int) (H : Hh), vTest (vOp opEq (vVar 3) (vC (.int n))) (bE B s l v p r) H = .ok ((v : Int) == n) H := fun n H => by
    simp [e3]
  -- parts of the text
  have hS : ∀ (lo hi : SMp) (o q : Option Int) (H : Hh), lo (bE B s l v p r) H = .ok o H → hi (bE B s l v p r) H = .ok q H → vSl (vVar 1) lo hi (bE B s l v p r) H = .ok (.str (cutD s o q)) H := fun lo hi o q H h1 h2 => by
    simp [e1, h1, h2, hsl]
  have q5 : ∀ H : Hh, vPart (vVar 5) (bE B s l v p r) H = .ok (some (p : Int)) H := fun H => by simp [e5]
  have q6 : ∀ H : Hh, vPart (vVar 6) (bE B s l v p r) H = .ok (some (r : Int)) H := fun H => by simp [e6]
  have q5' : ∀ (n : Int) (H : Hh), vPart (vOp opAdd (vVar 5) (vC (.int n))) (bE B s l v p r) H = .ok (some (p + n)) H := fun n H => by simp [e5]
  have q6' : ∀ (n : Int) (H : Hh), vPart (vOp opAdd (vVar 6) (vC (.int n))) (bE B s l v p r) H = .ok (some (r + n)) H := fun n H => by simp [e6]
  have qN : ∀ H : Hh, vNo (bE B s l v p r) H = .ok none H := fun H => rfl
  have addS : ∀ (m n : SMo D) (x y : List Nat) (H H1 H2 : Hh), m (bE B s l v p r) H = .ok (.str x) H1 → n (bE B s l v p r) H1 = .ok (.str y) H2 → x.length + y.length ≤ 16777216 → vOp opAdd m n (bE B s l v p r) H = .ok (.str (x ++ y)) H2 := fun m n x y H H1 H2 h1 h2 h3 => by
    simp [h1, h2, op_add_str h3]
  -- parts of the lines
  have hsum := split_sum 10 s
  have hB : ∀ G : Hh, (B.h a ++ W ++ G)[B.M.length]? = some (.lst ((splitD 10 s).map D.str)) := fun G => by
    rw [hW, ← bx_len B a]; simp
  have hLs : ∀ (G : Hh) (lo hi : SMp) (o q : Option Int), lo (bE B s l v p r) (B.h a ++ W ++ G) = .ok o (B.h a ++ W ++ G) → hi (bE B s l v p r) (B.h a ++ W ++ G) = .ok q (B.h a ++ W ++ G) → IsL (vSl (vVar 4) lo hi (bE B s l v p r) (B.h a ++ W ++ G)) (B.h a ++ W ++ G) (s.length + 1) := fun G lo hi o q h1 h2 =>
    isL_sl (by simp [e4]) h1 h2 (hB G) (by omega)
  have done : ∀ (m : SMo D) (R : SMs) (x : List Nat) (c : Nat) (G : Hh), m (bE B s l v p r) (B.h a ++ W) = .ok (.str x) (B.h c ++ G) → ((sRet m) (bE B s l v p r) (B.h a ++ W)).res = .ok (.str x) (B.h c ++ G) := fun m R x c G h => by
    simp [h]
  have zl : z_nl = [10] := rfl
  have zs : z_sp.length = 1 := rfl
  rw [← hW]
  have i0 : ∀ (n : Int) (x y : SMs), ((v : Int) == n) = false → ∀ H, sSeq (sIf (vTest (vOp opEq (vVar 3) (vC (.int n)))) x (sNil)) y (bE B s l v p r) H = y (bE B s l v p r) H := fun n x y h H => by
    simp only [es_seq, es_if, eq3, h, Res.st_ok, es_nil, RS.bind_nx]
  have i1 : ∀ (n : Int) (x : SMo D) (y : SMs), ((v : Int) == n) = true → ∀ H, (sSeq (sIf (vTest (vOp opEq (vVar 3) (vC (.int n)))) (sRet x) (sNil)) y (bE B s l v p r) H).res = (sRet x (bE B s l v p r) H).res := fun n x y h H => by
    simp only [es_seq, es_if, eq3, h, Res.st_ok, es_ret]
    cases x (bE B s l v p r) H <;> rfl
  unfold bentB
  by_cases c0 : ((v : Int) == 0) = true
  · rw [i1 _ _ _ c0]
    exact ⟨_, a, W, by have := hcl none (some p); have := hcl (some (p + 1)) none; simp; omega, by omega, by omega, done _ sNil _ _ _ (addS _ _ _ _ _ _ _ (hS _ _ _ _ _ (qN _) (q5 _)) (hS _ _ _ _ _ (q5' 1 _) (qN _)) (by have := hcl none (some p); have := hcl (some (p + 1)) none; omega))⟩
  rw [i0 _ _ _ (by simpa using c0)]
  by_cases c1 : ((v : Int) == 1) = true
  · rw [i1 _ _ _ c1]
    have l1 := hcl none (some p); have l2 := hcl (some p) (some (p + 1)); have l3 := hcl (some p) none
    exact ⟨_, a, W, by simp; omega, by omega, by omega, done _ sNil _ _ _ (addS _ _ _ _ _ _ _ (addS _ _ _ _ _ _ _ (hS _ _ _ _ _ (qN _) (q5 _)) (hS _ _ _ _ _ (q5 _) (q5' 1 _)) (by omega)) (hS _ _ _ _ _ (q5 _) (qN _)) (by simp; omega))⟩
  rw [i0 _ _ _ (by simpa using c1)]
  obtain ⟨x, hx, hpk⟩ := pick_at B k a l W sg hl hlb hne (fun x hx => by obtain ⟨z, rfl, _⟩ := hsg x hx; rfl) (by omega)
  obtain ⟨z, rfl, hz⟩ := hsg x hx
  have hpk' : vCallN 2 (callF (k + 2) 22) (vCons (vVar 0) (vCons (vVar 2) (vNil))) (bE B s l v p r) (B.h a ++ W) = .ok (.str z) (B.h (a + 1) ++ W) := by
    simp [e0, e2, hpk]
  by_cases c2 : ((v : Int) == 2) = true
  · rw [i1 _ _ _ c2]
    have l1 := hcl none (some p); have l2 := hcl (some (p + 1)) none
    exact ⟨_, a + 1, W, by simp; omega, by omega, by omega, done _ sNil _ _ _ (addS _ _ _ _ _ _ _ (addS _ _ _ _ _ _ _ (hS _ _ _ _ _ (qN _) (q5 _)) hpk' (by omega)) (hS _ _ _ _ _ (q5' 1 _) (qN _)) (by simp; omega))⟩
  rw [i0 _ _ _ (by simpa using c2)]
  by_cases c3 : ((v : Int) == 3) = true
  · rw [i1 _ _ _ c3]
    have l1 := hcl none (some p); have l2 := hcl (some (p + 1)) (some (p + 2)); have l3 := hcl (some p) (some (p + 1)); have l4 := hcl (some (p + 2)) none
    exact ⟨_, a, W, by simp; omega, by omega, by omega, done _ sNil _ _ _ (addS _ _ _ _ _ _ _ (addS _ _ _ _ _ _ _ (addS _ _ _ _ _ _ _ (hS _ _ _ _ _ (qN _) (q5 _)) (hS _ _ _ _ _ (q5' 1 _) (q5' 2 _)) (by omega)) (hS _ _ _ _ _ (q5 _) (q5' 1 _)) (by simp; omega)) (hS _ _ _ _ _ (q5' 2 _) (qN _)) (by simp; omega))⟩
  rw [i0 _ _ _ (by simpa using c3)]
  have hLs0 : ∀ (lo hi : SMp) (o q : Option Int), lo (bE B s l v p r) (B.h a ++ W) = .ok o (B.h a ++ W) → hi (bE B s l v p r) (B.h a ++ W) = .ok q (B.h a ++ W) → IsL (vSl (vVar 4) lo hi (bE B s l v p r) (B.h a ++ W)) (B.h a ++ W) (s.length + 1) := fun lo hi o q h1 h2 => by
    have := hLs [] lo hi o q (by rw [List.append_nil]; exact h1) (by rw [List.append_nil]; exact h2)
    rwa [List.append_nil] at this
  by_cases c4 : ((v : Int) == 4) = true
  · rw [i1 _ _ _ c4]
    obtain ⟨x, G, h1, h2⟩ := isL_join (c := 10) (isL_add (hLs0 _ _ _ _ (qN _) (q6 _)) (fun G => hLs G _ _ _ _ (q6' 1 _) (qN _)) (by omega)) (by omega)
    exact ⟨x, a, W ++ G, by omega, by omega, by omega, done _ sNil _ _ _ (by rw [← List.append_assoc]; exact h2)⟩
  rw [i0 _ _ _ (by simpa using c4)]
  by_cases c5 : ((v : Int) == 5) = true
  · rw [i1 _ _ _ c5]
    obtain ⟨x, G, h1, h2⟩ := isL_join (c := 10) (isL_add (isL_add (hLs0 _ _ _ _ (qN _) (q6 _)) (fun G => hLs G _ _ _ _ (q6 _) (q6' 1 _)) (by omega)) (fun G => hLs G _ _ _ _ (q6 _) (qN _)) (by omega)) (by omega)
    exact ⟨x, a, W ++ G, by omega, by omega, by omega, done _ sNil _ _ _ (by rw [← List.append_assoc]; exact h2)⟩
  rw [i0 _ _ _ (by simpa using c5)]
  by_cases c6 : ((v : Int) == 6) = true
  · rw [i1 _ _ _ c6]
    obtain ⟨x, G, h1, h2⟩ := isL_join (c := 10) (isL_add (isL_add (isL_add (hLs0 _ _ _ _ (qN _) (q6 _)) (fun G => hLs G _ _ _ _ (q6' 1 _) (q6' 2 _)) (by omega)) (fun G => hLs G _ _ _ _ (q6 _) (q6' 1 _)) (by omega)) (fun G => hLs G _ _ _ _ (q6' 2 _) (qN _)) (by omega)) (by omega)
    exact ⟨x, a, W ++ G, by omega, by omega, by omega, done _ sNil _ _ _ (by rw [← List.append_assoc]; exact h2)⟩
  rw [i0 _ _ _ (by simpa using c6)]
  by_cases c7 : ((v : Int) == 7) = true
  · rw [i1 _ _ _ c7]
    have l1 := hcl none (some p); have l2 := hcl (some p) none
    exact ⟨_, a + 1, W, by simp; omega, by omega, by omega, done _ sNil _ _ _ (addS _ _ _ _ _ _ _ (addS _ _ _ _ _ _ _ (hS _ _ _ _ _ (qN _) (q5 _)) hpk' (by omega)) (hS _ _ _ _ _ (q5 _) (qN _)) (by simp; omega))⟩
  rw [i0 _ _ _ (by simpa using c7)]
  have hn1 : ∀ H : Hh, vPart (vNeg (vC (.int 1))) (bE B s l v p r) H = .ok (some (-1)) H := fun H => by simp
  have ls := hcl none (some (-1))
  obtain ⟨x, hx, hp⟩ := pick_new B k a W [.str (cutD s none (some (-1))), .str (s ++ z_nl), .str (s ++ z_sp), .str (z_sp ++ s), .str z_empty, .str z_nl] (by simp) (by simp [pureD]) (by omega)
  have hxs : ∃ y, x = .str y ∧ y.length ≤ s.length + 1 := by
    simp only [List.mem_cons, List.not_mem_nil, or_false] at hx
    rcases hx with rfl | rfl | rfl | rfl | rfl | rfl
    · exact ⟨_, rfl, by omega⟩
    · exact ⟨_, rfl, by simp [zl]⟩
    · exact ⟨_, rfl, by simp [zs]⟩
    · exact ⟨_, rfl, by simp [zs]; omega⟩
    · exact ⟨_, rfl, by simp [z_empty]⟩
    · exact ⟨_, rfl, by simp [zl]⟩
  obtain ⟨y, rfl, hy⟩ := hxs
  refine ⟨y, a + 1, W ++ [.lst [.str (cutD s none (some (-1))), .str (s ++ z_nl), .str (s ++ z_sp), .str (z_sp ++ s), .str z_empty, .str z_nl]], by omega, by omega, by omega, ?_⟩
  have a1 : ∀ H : Hh, opAdd (.str s) (.str z_nl) H = some (.str (s ++ z_nl), H) := fun H => op_add_str (by simp [zl]; omega)
  have a2 : ∀ H : Hh, opAdd (.str s) (.str z_sp) H = some (.str (s ++ z_sp), H) := fun H => op_add_str (by simp [zs]; omega)
  have a3 : ∀ H : Hh, opAdd (.str z_sp) (.str s) H = some (.str (z_sp ++ s), H) := fun H => op_add_str (by simp [zs]; omega)
  have hs1 := hS _ _ _ _ (B.h a ++ W) (qN _) (hn1 _)
  simp only [es_ret, ev_call, ev_cons, ev_lst, hs1, ev_op, ev_var, ev_C, e0, e1, Res.bind_ok, a1, a2, a3, Res.ofO_some, ev_nil]
  simp only [List.length_cons, List.length_nil, Nat.zero_add, Nat.reduceAdd, Nat.reduceLeDiff, if_true, Res.bind_ok, List.append_assoc]
  rw [hp]
  rfl
theorem f_bent (B : Bx) (k a l : Nat) (s : List Nat) (sg : List D) (hl : B.M[l]? = some (.lst sg)) (hlb : l ≠ B.b) (hne : sg ≠ []) (hsg : ∀ x ∈ sg, ∃ z, x = .str z ∧ z.length ≤ 2) (hs : s.length ≤ 100000) (ha : a ≤ 800000) :
    ∃ s' c, s'.length ≤ 5 * s.length + 10 ∧ a ≤ c ∧ c ≤ a + 10 ∧ callF (k + 3) 26 [.loc B.b, .str s, .loc l] (B.h a) = .ok (.str s') (B.h c) := by
  have hd1 := f_draw B (k + 1) a 9 (by omega) (by omega)
  obtain ⟨p1, p2⟩ := draw_bd B.ds a 9 (by omega)
  obtain ⟨v, hv⟩ : ∃ v : Nat, drawV B.ds a 9 = (v : Int) := ⟨(drawV B.ds a 9).toNat, by omega⟩
  rw [hv] at hd1
  obtain ⟨W, hW⟩ : ∃ W : Hh, W = [.lst ((splitD 10 s).map D.str)] := ⟨_, rfl⟩
  have hsum := split_sum 10 s
  have hsp : ∀ M' : Hh, mSplit (.str s) [.str z_nl] M' = some (.loc M'.length, M' ++ W) := fun M' => by
    show (if s.length + 2 ≤ 16777216 ∧ 10 < 256 then _ else _) = _
    rw [if_pos ⟨by omega, by decide⟩, hW]
  obtain ⟨p, hp⟩ := at_ok B (k + 1) (a + 1) W s [some (.loc B.b), some (.str s), some (.loc l), some (.int v), some (.loc B.M.length), none, none] rfl rfl (by omega) (by omega)
  obtain ⟨w0, r0, hWc⟩ := splitD_cons 10 s
  have hpos : 1 ≤ (splitD 10 s).length := by rw [hWc]; simp
  have hd4 := draw_g B (k + 1) (a + 3) ((splitD 10 s).length : Int) W (by omega) (by omega)
  obtain ⟨r1, r2⟩ := draw_bd B.ds (a + 3) ((splitD 10 s).length : Int) (by omega)
  obtain ⟨r, hr⟩ : ∃ r : Nat, drawV B.ds (a + 3) ((splitD 10 s).length : Int) = (r : Int) := ⟨(drawV B.ds (a + 3) ((splitD 10 s).length : Int)).toNat, by omega⟩
  rw [hr] at hd4
  obtain ⟨s', c, G, h1, h2, h3, h4⟩ := bent_body B k (a + 4) l v p r s sg hl hlb hne hsg hs (by omega)
  rw [← hW] at h4
  refine ⟨s', c, h1, by omega, by omega, ?_⟩
  have h0 : callF (k + 3) 26 = runF 7 (m__law_bent_text (callF (k + 2))) := rfl
  rw [h0]
  refine run_bx ⟨G, ?_⟩ rfl
  have e0 : m__law_bent_text (callF (k + 2)) = sSeq (sPar 3 4 (vCallN 2 (callF (k + 2) 21) (vCons (vVar 0) (vCons (vC (.int 9)) (vNil)))) (vM "str" mSplit (vVar 1) (vCons (vC (.str z_nl)) (vNil))))
    (sSeq (sAsg (mAt opMul opMod (k + 2)) (gName 5)) (sSeq (sAsg (vCallN 2 (callF (k + 2) 21) (vCons (vVar 0) (vCons (vB fLen (vCons (vVar 4) (vNil))) (vNil)))) (gName 6)) (bentB (k + 2)))) := rfl
  have hln : fLen [.loc B.M.length] (B.h (a + 3) ++ W) = some (.int ((splitD 10 s).length : Int), B.h (a + 3) ++ W) := by
    rw [hW, ← bx_len B (a + 3)]; simp [fLen]
  rw [e0, start3, ← h4]
  simp only [es_seq, es_par, ev_call, ev_cons, ev_var, ev_C, ev_nil, List.getElem?_cons_zero, Res.bind_ok, List.length_cons, List.length_nil, Nat.zero_add, Nat.reduceAdd, if_true, hd1, Res.st_ok, ev_m, List.getElem?_cons_succ, tyM, hsp, Res.ofO_some, bx_len, RS.bind_nx, es_asg, es_name]
  simp only [List.replicate, List.set_cons_succ, List.set_cons_zero]
  have hp' : mAt opMul opMod (k + 2) [some (.loc B.b), some (.str s), some (.loc l), some (.int v), some (.loc B.M.length), none, none] (B.h (a + 1) ++ W) = .ok (.int p) (B.h (a + 3) ++ W) := hp
  simp [hp', hln, hd4, bE]
end Gm.K28

set_option Elab.async false
set_option linter.all false
set_option maxRecDepth 100000
set_option maxHeartbeats 1000000
set_option autoImplicit false
namespace Gm.K28
open Gm
open L2
/-! ### _law_digits -/
noncomputable def dig1 (fD fO : Op2) : SMs := sIf (vTest (vOp opGt (vVar 5) (vC (.int 0)))) (sSeq (sExpr (vM "list" mAppend (vVar 3) (vCons (vOp fO (vB fInt (vCons (vVar 5) (vNil))) (vC (.int 1009))) (vNil))))
    (sAsg (vOp fD (vVar 5) (vC (.int 1009))) (gName 5))) (sNil)
noncomputable def dig2 (fM fD fO : Op2) : SMs := (sSeq (sAsg (vOp fO (vB fInt (vCons (vOp opAdd (vOp opAdd (vOp fM (vVar 7) (vC (.int 40014))) (vOp fM (vC (.int 11)) (vVar 6))) (vC (.int 7))) (vNil))) (vC (.int 2147483563))) (gName 7))
    (sExpr (vM "list" mAppend (vVar 3) (vCons (vOp fO (vB fInt (vCons (vOp fD (vVar 7) (vC (.int 1013))) (vNil))) (vC (.int 1009))) (vNil)))))
noncomputable def dig (fM fD fO : Op2) (r1 r2 : SMo IterD) : SMs := (sSeq (sAsg (vIf (vTest (vOp opLt (vVar 4) (vB fLen (vCons (vVar 0) (vNil))))) (vOp opIx (vVar 0) (vVar 4)) (vC (.int 0))) (gName 5))
    (sSeq (sIf (vTest (vOp opLt (vVar 5) (vC (.int 0)))) (sAsg (vOp opSub (vC (.int 1)) (vOp fM (vC (.int 2)) (vVar 5))) (gName 5)) (sNil))
    (sIf (vTest (vOp opGe (vVar 5) (vC (.int 1000000000000000000)))) (sFor r1 (gName 6) (dig1 fD fO)) (sSeq (sAsg (vOp fO (vB fInt (vCons (vOp opAdd (vOp opAdd (vOp fM (vVar 5) (vC (.int 40699))) (vOp fM (vVar 4) (vC (.int 52769)))) (vC (.int 31))) (vNil))) (vC (.int 2147483399))) (gName 7))
    (sFor r2 (gName 6) (dig2 fM fD fO))))))
structure Ops (fM fD fO : Op2) : Prop where
  m : ∀ (i j : Int) (H : Hh), (-100000 ≤ i ∧ i ≤ 100000) ∨ (-100000 ≤ j ∧ j ≤ 100000) → fM (.int i) (.int j) H = some (.int (i * j), H)
  d : ∀ (i j : Int) (H : Hh), 0 < j ∧ j ≤ 2000 → fD (.int i) (.int j) H = some (.int (i / j), H)
  o : ∀ (i j : Int) (H : Hh), 0 < j → fO (.int i) (.int j) H = some (.int (i % j), H)
theorem fi_ (j : Int) (H : Hh) : fInt [.int j] H = some (.int j, H) := rfl
section
variable {fM fD fO : Op2} (ho : Ops fM fD fO)
include ho
theorem dig1_step (sc : D) (M : Hh) (ds : List Int) (x1 x2 x4 x6 x7 : Option D) (c i : Int) (h : ds.length ≤ 1000000) :
    ∃ (ds' : List Int) (c' : Int), ds'.length ≤ ds.length + 1 ∧ (gName 6 (.int i) [some sc, x1, x2, some (.loc M.length), x4, some (.int c), x6, x7] (M ++ [.lst (ds.map D.int)])).bind (dig1 fD fO) = .nx [some sc, x1, x2, some (.loc M.length), x4, some (.int c'), some (.int i), x7] (M ++ [.lst (ds'.map D.int)]) := by
  have hl : ds.length < 16777216 := by omega
  by_cases hc : 0 < c
  · refine ⟨ds ++ [c % 1009], c / 1009, by simp, ?_⟩
    simp [dig1, hc, fi_, ho.o c 1009 _ (by omega), ho.d c 1009 _ (by omega), tyM, mAppend, hl, set_last]
  · refine ⟨ds, c, by omega, ?_⟩
    simp [dig1, hc]
theorem dig2_step (sc : D) (M : Hh) (ds : List Int) (x1 x2 x4 x5 x6 : Option D) (c i : Int) (h : ds.length ≤ 1000000) :
    ∃ (ds' : List Int) (c' : Int), ds'.length ≤ ds.length + 1 ∧ (gName 6 (.int i) [some sc, x1, x2, some (.loc M.length), x4, x5, x6, some (.int c)] (M ++ [.lst (ds.map D.int)])).bind (dig2 fM fD fO) = .nx [some sc, x1, x2, some (.loc M.length), x4, x5, some (.int i), some (.int c')] (M ++ [.lst (ds'.map D.int)]) := by
  have hl : ds.length < 16777216 := by omega
  refine ⟨ds ++ [((c * 40014 + 11 * i + 7) % 2147483563) / 1013 % 1009], (c * 40014 + 11 * i + 7) % 2147483563, by simp, ?_⟩
  simp [dig2, fi_, ho.m c 40014 _ (by omega), ho.m 11 i _ (by omega), ho.o _ 1009 _ (by omega), ho.o _ 2147483563 _ (by omega), ho.d _ 1013 _ (by omega), tyM, mAppend, hl, set_last]
theorem dig_step (ns : List Int) (M : Hh) (ds : List Int) (r1 r2 : SMo IterD) (hr1 : ∀ env H, r1 env H = .ok (itR 0 60) H) (hr2 : ∀ env H, r2 env H = .ok (itR 0 12) H) (x1 x2 x4 x5 x6 x7 : Option D) (i : Nat) (h : ds.length ≤ 900000) :
    ∃ (ds' : List Int) (y5 y6 y7 : Option D), ds'.length ≤ ds.length + 60 ∧ (gName 4 (.int ((0 : Int) + i)) [some (.frz (ns.map D.int)), x1, x2, some (.loc M.length), x4, x5, x6, x7] (M ++ [.lst (ds.map D.int)])).bind (dig fM fD fO r1 r2) = .nx [some (.frz (ns.map D.int)), x1, x2, some (.loc M.length), some (.int i), y5, y6, y7] (M ++ [.lst (ds'.map D.int)]) := by
  obtain ⟨c, hc⟩ : ∃ c : Int, ∀ H : Hh, vIf (vTest (vOp opLt (vVar 4) (vB fLen (vCons (vVar 0) (vNil))))) (vOp opIx (vVar 0) (vVar 4)) (vC (.int 0)) [some (.frz (ns.map D.int)), x1, x2, some (.loc M.length), some (.int i), x5, x6, x7] H = .ok (.int c) H := by
    by_cases hi : i < ns.length
    · have hi' : (i : Int) < (ns.length : Int) := by omega
      refine ⟨ns[i], fun H => ?_⟩
      simp [fLen, hi', opIx, atI_nat, hi]
    · have hi' : ¬ (i : Int) < (ns.length : Int) := by omega
      refine ⟨0, fun H => ?_⟩
      simp [fLen, hi']
  obtain ⟨c2, hc2⟩ : ∃ c2 : Int, ∀ H : Hh, sIf (vTest (vOp opLt (vVar 5) (vC (.int 0)))) (sAsg (vOp opSub (vC (.int 1)) (vOp fM (vC (.int 2)) (vVar 5))) (gName 5)) (sNil) [some (.frz (ns.map D.int)), x1, x2, some (.loc M.length), some (.int i), some (.int c), x6, x7] H = .nx [some (.frz (ns.map D.int)), x1, x2, some (.loc M.length), some (.int i), some (.int c2), x6, x7] H := by
    by_cases hi : c < 0
    · refine ⟨1 - 2 * c, fun H => ?_⟩
      simp [hi, ho.m 2 c _ (by omega)]
    · refine ⟨c, fun H => ?_⟩
      simp [hi]
  have e : (0 : Int) + (i : Int) = i := by omega
  rw [e]
  by_cases hb : 1000000000000000000 ≤ c2
  · obtain ⟨env', M', h1, ds', c', z6, h2, h3, h4⟩ := for_inv (n := 60) (lo := 0) (g := gName 6) (b := dig1 fD fO) (fun j env M' => ∃ (ds' : List Int) (c' : Int) (z6 : Option D), ds'.length ≤ ds.length + j ∧ env = [some (.frz (ns.map D.int)), x1, x2, some (.loc M.length), some (.int i), some (.int c'), z6, x7] ∧ M' = M ++ [.lst (ds'.map D.int)])
      (fun j env M' hj ⟨ds', c', z6, h1, h2, h3⟩ => by
        subst h2; subst h3
        obtain ⟨ds2, c3, h4, h5⟩ := dig1_step ho (.frz (ns.map D.int)) M ds' x1 x2 (some (.int i)) z6 x7 c' ((0 : Int) + j) (by omega)
        exact ⟨_, _, h5, ds2, c3, some (.int ((0 : Int) + j)), by omega, rfl, rfl⟩) 60 0 NN [some (.frz (ns.map D.int)), x1, x2, some (.loc M.length), some (.int i), some (.int c2), x6, x7] (M ++ [.lst (ds.map D.int)]) (by omega) (by unfold NN; omega) ⟨ds, c2, x6, by omega, rfl, rfl⟩
    subst h3; subst h4
    refine ⟨ds', some (.int c'), z6, x7, h2, ?_⟩
    have hb' : vTest (vOp opGe (vVar 5) (vC (.int 1000000000000000000))) [some (.frz (ns.map D.int)), x1, x2, some (.loc M.length), some (.int i), some (.int c2), x6, x7] (M ++ [.lst (ds.map D.int)]) = .ok true (M ++ [.lst (ds.map D.int)]) := by simp [hb]
    unfold dig
    simp only [es_name, List.set_cons_succ, List.set_cons_zero, RS.bind_nx, es_seq, es_asg, hc, Res.st_ok, hc2]
    rw [es_if, hb']
    simp only [Res.st_ok, es_for, hr1, h1]
  · obtain ⟨c4, hc4⟩ : ∃ c4 : Int, ∀ H : Hh, vOp fO (vB fInt (vCons (vOp opAdd (vOp opAdd (vOp fM (vVar 5) (vC (.int 40699))) (vOp fM (vVar 4) (vC (.int 52769)))) (vC (.int 31))) (vNil))) (vC (.int 2147483399)) [some (.frz (ns.map D.int)), x1, x2, some (.loc M.length), some (.int i), some (.int c2), x6, x7] H = .ok (.int c4) H := by
      refine ⟨(c2 * 40699 + (i : Int) * 52769 + 31) % 2147483399, fun H => ?_⟩
      simp [fi_, ho.m c2 40699 _ (by omega), ho.m (i : Int) 52769 _ (by omega), ho.o _ 2147483399 _ (by omega)]
    obtain ⟨env', M', h1, ds', c', z6, h2, h3, h4⟩ := for_inv (n := 12) (lo := 0) (g := gName 6) (b := dig2 fM fD fO) (fun j env M' => ∃ (ds' : List Int) (c' : Int) (z6 : Option D), ds'.length ≤ ds.length + j ∧ env = [some (.frz (ns.map D.int)), x1, x2, some (.loc M.length), some (.int i), some (.int c2), z6, some (.int c')] ∧ M' = M ++ [.lst (ds'.map D.int)])
      (fun j env M' hj ⟨ds', c', z6, h1, h2, h3⟩ => by
        subst h2; subst h3
        obtain ⟨ds2, c3, h4, h5⟩ := dig2_step ho (.frz (ns.map D.int)) M ds' x1 x2 (some (.int i)) (some (.int c2)) z6 c' ((0 : Int) + j) (by omega)
        exact ⟨_, _, h5, ds2, c3, some (.int ((0 : Int) + j)), by omega, rfl, rfl⟩) 12 0 NN [some (.frz (ns.map D.int)), x1, x2, some (.loc M.length), some (.int i), some (.int c2), x6, some (.int c4)] (M ++ [.lst (ds.map D.int)]) (by omega) (by unfold NN; omega) ⟨ds, c4, x6, by omega, rfl, rfl⟩
    subst h3; subst h4
    refine ⟨ds', some (.int c2), z6, some (.int c'), by omega, ?_⟩
    have hb' : vTest (vOp opGe (vVar 5) (vC (.int 1000000000000000000))) [some (.frz (ns.map D.int)), x1, x2, some (.loc M.length), some (.int i), some (.int c2), x6, x7] (M ++ [.lst (ds.map D.int)]) = .ok false (M ++ [.lst (ds.map D.int)]) := by simp [hb]
    unfold dig
    simp only [es_name, List.set_cons_succ, List.set_cons_zero, RS.bind_nx, es_seq, es_asg, hc, Res.st_ok, hc2]
    rw [es_if, hb']
    simp only [Res.st_ok, es_seq, es_asg, hc4, es_name, List.set_cons_succ, List.set_cons_zero, RS.bind_nx, es_for, hr2, h1]
theorem dig_run (ns : List Int) (M : Hh) (r0 r1 r2 : SMo IterD) (hr0 : ∀ env H, env[1]? = some (some (.int 0)) → env[2]? = some (some (.int 63)) → r0 env H = .ok (itR 0 63) H) (hr1 : ∀ env H, r1 env H = .ok (itR 0 60) H) (hr2 : ∀ env H, r2 env H = .ok (itR 0 12) H) :
    ∃ ds : List Int, ((sSeq (sAsg (vLst (vNil)) (gName 3)) (sSeq (sFor r0 (gName 4) (dig fM fD fO r1 r2)) (sRet (vVar 3)))) (startD 8 [.frz (ns.map D.int), .int 0, .int 63]) M).res = .ok (.loc M.length) (M ++ [.lst (ds.map D.int)]) := by
  obtain ⟨env', M', h1, ds', y4, y5, y6, y7, h2, h3, h4⟩ := for_inv (n := 63) (lo := 0) (g := gName 4) (b := dig fM fD fO r1 r2) (fun j env M' => ∃ (ds' : List Int) (z4 z5 z6 z7 : Option D), ds'.length ≤ 60 * j ∧ env = [some (.frz (ns.map D.int)), some (.int 0), some (.int 63), some (.loc M.length), z4, z5, z6, z7] ∧ M' = M ++ [.lst (ds'.map D.int)])
      (fun j env M' hj ⟨ds', z4, z5, z6, z7, h1, h2, h3⟩ => by
        subst h2; subst h3
        obtain ⟨ds2, y5, y6, y7, h4, h5⟩ := dig_step ho ns M ds' r1 r2 hr1 hr2 (some (.int 0)) (some (.int 63)) z4 z5 z6 z7 j (by omega)
        exact ⟨_, _, h5, ds2, _, y5, y6, y7, by omega, rfl, rfl⟩) 63 0 NN [some (.frz (ns.map D.int)), some (.int 0), some (.int 63), some (.loc M.length), none, none, none, none] (M ++ [.lst []]) (by omega) (by unfold NN; omega) ⟨[], none, none, none, none, by simp, rfl, by simp⟩
  subst h3; subst h4
  refine ⟨ds', ?_⟩
  rw [start3]
  simp [hr0, h1]
end
theorem ops_ok : Ops opMul opFdiv opMod := ⟨fun i j H h => by
    rcases h with h | h
    · exact op_mul_l (by omega)
    · exact op_mul_r (by omega), fun i j H h => op_fdiv (by omega), fun i j H h => op_mod h⟩
theorem f_digits (k : Nat) (ns : List Int) (M : Hh) : ∃ ds : List Int, callF (k + 1) 20 [.frz (ns.map D.int), .int 0, .int 63] M = .ok (.loc M.length) (M ++ [.lst (ds.map D.int)]) := by
  have h0 : callF (k + 1) 20 = runF 8 (sSeq (sAsg (vLst (vNil)) (gName 3)) (sSeq (sFor (vRange2 (vVar 1) (vVar 2)) (gName 4) (dig opMul opFdiv opMod (vRange1 (vC (.int 60))) (vRange1 (vC (.int 12))))) (sRet (vVar 3)))) := rfl
  obtain ⟨ds, h⟩ := dig_run ops_ok ns M (vRange2 (vVar 1) (vVar 2)) (vRange1 (vC (.int 60))) (vRange1 (vC (.int 12)))
    (fun env H h1 h2 => range2_ok (i := 0) (j := 63) (M1 := H) (by simp only [ev_var, h1]) (by simp only [ev_var, h2]) (small_nat (n := 0) (by omega)) (small_nat (n := 63) (by omega)))
    (fun env H => range1_ok (n := 60) rfl (small_nat (by omega))) (fun env H => range1_ok (n := 12) rfl (small_nat (by omega)))
  refine ⟨ds, ?_⟩
  rw [h0]
  exact run_new h (by simp [ltD])
end Gm.K28

set_option Elab.async false
set_option linter.all false
set_option maxRecDepth 100000
set_option maxHeartbeats 1000000
set_option autoImplicit false
namespace Gm.K28
open Gm
open L2
/-! ### what the reader tells of a bent text -/
theorem linesP_err : ∀ (r : List (List Nat)) (i j : Nat), linesP r i = .err j → i ≤ j ∧ j < i + r.length ∧ (∀ L ∈ r.take (j - i), (lineP L).isNone = false) ∧ ∃ L, r[j - i]? = some L ∧ lineP L = none
  | [], i, j, h => by cases h
  | L :: r, i, j, h => by
    unfold linesP at h
    split at h
    · next hx =>
      cases h
      exact ⟨by omega, by simp, by simp, L, by simp, hx⟩
    · next x hx =>
      split at h
      · cases h
      · next j' hj =>
        cases h
        obtain ⟨h1, h2, h3, L', h4, h5⟩ := linesP_err r (i + 1) j hj
        have e : j - i = (j - (i + 1)) + 1 := by omega
        refine ⟨by omega, by simp; omega, fun y hy => ?_, L', by rw [e]; simpa using h4, h5⟩
        rw [e, List.take_succ_cons] at hy
        rcases List.mem_cons.mp hy with rfl | hy
        · rw [hx]; rfl
        · exact h3 y hy
theorem linesP_good : ∀ (r : List (List Nat)) (i : Nat) (C : List Ln), linesP r i = .ok C → ∀ L ∈ r, (lineP L).isNone = false
  | [], _, _, _ => by simp
  | L :: r, i, C, h => by
    unfold linesP at h
    split at h
    · cases h
    · next x hx =>
      split at h
      · next C' hC =>
        cases h
        intro y hy
        rcases List.mem_cons.mp hy with rfl | hy
        · rw [hx]; rfl
        · exact linesP_good r (i + 1) C' hC y hy
      · cases h
theorem readC_cod {s : List Nat} (h : readC s = .cod) : lastW s = [] ∧ ∀ L ∈ (splitD 10 s).dropLast, (lineP L).isNone = false := by
  unfold readC at h
  split at h
  · cases h
  · next E hl =>
    split at h
    · next hw => exact ⟨hw, linesP_good _ _ _ hl⟩
    · cases h
theorem readC_txt {s : List Nat} {p : Nat} (h : readC s = .txt p) : p < (splitD 10 s).length ∧ (∀ L ∈ (splitD 10 s).take p, (lineP L).isNone = false) ∧ (p < (splitD 10 s).length - 1 → ∃ L, (splitD 10 s)[p]? = some L ∧ (lineP L).isNone = true) ∧ (p = (splitD 10 s).length - 1 → lastW s ≠ []) := by
  obtain ⟨y, ys, e⟩ := splitD_cons 10 s
  have hpos : 1 ≤ (splitD 10 s).length := by rw [e]; simp
  unfold readC at h
  split at h
  · next i hl =>
    cases h
    obtain ⟨h1, h2, h3, L, h4, h5⟩ := linesP_err _ _ _ hl
    rw [List.length_dropLast] at h2
    have e1 : (splitD 10 s).dropLast.take (p - 0) = (splitD 10 s).take p := by
      rw [List.dropLast_eq_take, List.take_take]; congr 1; omega
    rw [e1] at h3
    refine ⟨by omega, h3, fun hp => ⟨L, ?_, by rw [h5]; rfl⟩, fun hp => by omega⟩
    rw [List.dropLast_eq_take, List.getElem?_take_of_lt (by omega)] at h4
    simpa using h4
  · next E hl =>
    split at h
    · split at h
      · cases h
      · cases h
    · next hw =>
      cases h
      have hg := linesP_good _ _ _ hl
      rw [List.dropLast_eq_take] at hg
      exact ⟨by omega, hg, fun hp => by omega, fun _ => hw⟩
theorem readC_ne {s : List Nat} {C E : List Ln} (h : readC s = .ok E) (hne : s ≠ fmtC C) : E ≠ C := fun e => hne (by rw [← (readC_fmt h).1, e])
/-! ### the loop of the law -/
noncomputable def cLn (hi : SMp) : SMo Bool := vTest (vOp opNe (vComp (vIter (vSl (vVar 9) (vNo) hi)) (.one 10) (vTru (vCallN 1 (callF 114 29) (vCons (vVar 10) (vNil)))) (vVar 10) [10]) (vLst (vNil)))
theorem cLn_ok {M : Hh} {env : Ev} {hi : SMp} {q : Int} {l : Nat} {W S : List (List Nat)} (h9 : env[9]? = some (some (.loc l))) (hlen : env.length = 11) (hq : hi env M = .ok (some q) M) (hl : M[l]? = some (.lst (W.map D.str))) (hc : cutD W none (some q) = S) (hS : ∀ L ∈ S, L.length ≤ 90000 ∧ 10 ∉ L ∧ (lineP L).isNone = false) (hn : S.length ≤ 1000000) : ∃ G, cLn hi env M = .ok false (M ++ G) := by
  have hsl : slD (.loc l) none (some q) M = some (.loc M.length, M ++ [.lst (S.map D.str)]) := by
    simp [slD, hl, cut_map, hc]
  have hit : (M ++ [MO.lst (S.map D.str)])[M.length]? = some (.lst (S.map D.str)) := by simp
  have hcomp := compL (M := M ++ [MO.lst (S.map D.str)]) (J := itLoc M.length) (sh := .one 10) (t := vTru (vCallN 1 (callF 114 29) (vCons (vVar 10) (vNil)))) (e := vVar 10) (env := wipeE env [10]) (items := S.map D.str) (fun _ => false) (fun d => d) (fun i acc => itLoc_app hit i acc) (by simp; omega) (by
    intro d hd
    obtain ⟨L, hL, rfl⟩ := List.mem_map.mp hd
    obtain ⟨h1, h2, h3⟩ := hS L hL
    refine ⟨(wipeE env [10]).set 10 (some (.str L)), by simp [bindT], fun acc => ⟨?_, fun h => by cases h⟩⟩
    have hr := f_refused 74 L ((M ++ [MO.lst (S.map D.str)]) ++ [MO.lst acc]) h1 h2
    rw [h3] at hr
    have hr : callF 114 29 [.str L] ((M ++ [MO.lst (S.map D.str)]) ++ [MO.lst acc]) = .ok (.bl false) ((M ++ [MO.lst (S.map D.str)]) ++ [MO.lst acc]) := hr
    have hv : ((wipeE env [10]).set 10 (some (.str L)))[10]? = some (some (.str L)) := by
      rw [List.getElem?_set_self]
      simp [wipeE, hlen]
    simp only [ev_tru, ev_call, ev_cons, ev_var, hv, Res.bind_ok, ev_nil, List.length_cons, List.length_nil, Nat.zero_add, if_true, hr, tru_bl])
  have hf : ((S.map D.str).filter fun _ => false).map (fun d => d) = [] := by simp
  rw [hf] at hcomp
  obtain ⟨N, hN⟩ : ∃ N, N = M ++ [MO.lst (S.map D.str)] := ⟨_, rfl⟩
  have hNl : N.length = M.length + 1 := by rw [hN]; simp
  refine ⟨[.lst (S.map D.str), .lst [], .lst []], ?_⟩
  have hq2 : opNe (.loc N.length) (.loc (N.length + 1)) (N ++ [.lst [], .lst []]) = some (.bl false, N ++ [.lst [], .lst []]) := by
    have h1 := like_q N
    unfold opEq at h1
    unfold opNe
    have e1 : seeD (N ++ [.lst [], .lst []]) (.loc N.length) = some (.frz []) := by simp [seeD, pureDs]
    have e2 : seeD (N ++ [.lst [], .lst []]) (.loc (N.length + 1)) = some (.frz []) := by
      have g : (N ++ [MO.lst [], MO.lst []])[N.length + 1]? = some (.lst []) := by
        rw [List.getElem?_append_right (by omega), show N.length + 1 - N.length = 1 by omega]; rfl
      simp only [seeD, g]
      rfl
    rw [e1, e2]
    simp [deq, deqs, dep, deps]
  unfold cLn
  rw [← hN] at hcomp hsl hit
  have e3 : M ++ [MO.lst (S.map D.str), .lst [], .lst []] = N ++ [.lst [], .lst []] := by rw [hN]; simp
  rw [e3]
  simp only [ev_test, ev_op, ev_comp, ev_iter, ev_sl, ev_var, h9, Res.bind_ok, ev_no, hq, hsl, Res.ofO_some, hit, hcomp, ev_lst, ev_nil, List.length_nil, Nat.zero_le, if_true, List.length_append, List.length_cons, List.append_assoc, List.cons_append, List.nil_append, Nat.zero_add, hq2]
def lE (sc : D) (b l : Nat) (C : List Ln) (t : List Nat) (x5 x6 x7 x8 x9 x10 : Option D) : Ev := [some sc, some (.loc b), some (codeD C), some (.str t), some (.loc l), x5, x6, x7, x8, x9, x10]
noncomputable def lawA : SMs := (sIf (vOr (vTest (vOp opIsn (vCallN 1 (callF 114 14) (vCons (vVar 8) (vNil))) (vC .non))) (vOr (vTest (vOp opNe (vCallN 1 (callF 114 17) (vCons (vVar 8) (vNil))) (vVar 6))) (vAnd (vTest (vOp opNe (vVar 6) (vVar 3))) (vTru (vCallN 2 (callF 114 23) (vCons (vVar 8) (vCons (vVar 2) (vNil)))))))) (sRet (vC (.bl false))) (sNil))
noncomputable def lawB : SMs := (sIf (vOr (vTest (vOp opEq (vVar 6) (vVar 3))) (vOr (vTest (vOp opNe (vOp opIx (vVar 9) (vNeg (vC (.int 1)))) (vC (.str z_empty)))) (cLn (vPart (vNeg (vC (.int 1))))))) (sRet (vC (.bl false))) (sNil))
noncomputable def lawC : SMs := (sSeq (sIf (vOr (vTest (vOp opEq (vVar 6) (vVar 3))) (vOr (vNot (vTru (vIsi .int (vVar 8)))) (vOr (vTru (vIsi .bool (vVar 8))) (vNot (vTest (vChain opLe opLt (vC (.int 0)) (vVar 8) (vB fLen (vCons (vVar 9) (vNil))))))))) (sRet (vC (.bl false))) (sNil))
    (sSeq (sIf (vOr (cLn (vPart (vVar 8))) (vAnd (vTest (vOp opLt (vVar 8) (vOp opSub (vB fLen (vCons (vVar 9) (vNil))) (vC (.int 1))))) (vNot (vTru (vCallN 1 (callF 114 29) (vCons (vOp opIx (vVar 9) (vVar 8)) (vNil))))))) (sRet (vC (.bl false))) (sNil))
    (sIf (vAnd (vTest (vOp opEq (vVar 8) (vOp opSub (vB fLen (vCons (vVar 9) (vNil))) (vC (.int 1))))) (vTest (vOp opEq (vOp opIx (vVar 9) (vNeg (vC (.int 1)))) (vC (.str z_empty))))) (sRet (vC (.bl false))) (sNil))))
section
variable (sc : D) (b l : Nat) (C : List Ln) (t s : List Nat) (x5 x10 : Option D) (H : Hh) (l9 : Nat)
  (hs : s.length ≤ 20000) (h9 : H[l9]? = some (.lst ((splitD 10 s).map D.str))) (hC : readC t = .ok C) (ht : t.length ≤ 20000)
include hs h9 hC ht
theorem lawA_ok {E : List Ln} (hr : readC s = .ok E) : lawA (lE sc b l C t x5 (some (.str s)) (some (.bl true)) (some (codeD E)) (some (.loc l9)) x10) H = .nx (lE sc b l C t x5 (some (.str s)) (some (.bl true)) (some (codeD E)) (some (.loc l9)) x10) H := by
  obtain ⟨h1, h2⟩ := readC_fmt hr
  obtain ⟨h3, h4⟩ := readC_fine hr (by omega)
  obtain ⟨h3', h4'⟩ := readC_fine hC (by omega)
  have l1 := readC_lw hr
  have l2 := readC_lw hC
  have f1 : callF 114 14 [codeD E] H = .ok (faultD E) H := f_code_fault 109 E H h3 (by omega)
  have f2 : callF 114 17 [codeD E] H = .ok (.str (fmtC E)) H := f_format_code 88 E H h3 h4 h2 (by rw [h1]; omega)
  rw [fault_ok h2] at f1
  rw [h1] at f2
  by_cases hst : s = t
  · have hb : (s == t) = true := by rw [hst]; simp
    simp [lawA, lE, f1, f2, hb]
  · have hb : (s == t) = false := by simpa using hst
    have f3 : callF 114 23 [codeD E, codeD C] H = .ok (.bl false) H := f_same 113 E C H h3 h3' (by omega) (by omega) (readC_ne hr (by rw [(readC_fmt hC).1]; exact hst))
    simp [lawA, lE, f1, f2, hb, f3]
theorem last_ix {G : Hh} : opIx (.loc l9) (.int (-1)) (H ++ G) = some (.str (lastW s), H ++ G) := by
  obtain ⟨y, ys, e⟩ := splitD_cons 10 s
  have hpos : 1 ≤ (splitD 10 s).length := by rw [e]; simp
  have hg : (H ++ G)[l9]? = some (.lst ((splitD 10 s).map D.str)) := by
    rw [List.getElem?_append_left (loc_str h9)]; exact h9
  have e2 : atI ((splitD 10 s).map D.str) (-1) = some (.str (lastW s)) := by
    rw [show (-1 : Int) = -((1 : Nat) : Int) from rfl, atI_neg _ 1 (by omega) (by simp; omega), List.length_map, List.getElem?_map]
    unfold lastW
    rw [List.getElem?_eq_getElem (by omega)]
    rfl
  simp [opIx, hg, e2]
theorem ne_text {r : RC} (hr : readC s = r) (h : ∀ E, r ≠ .ok E) : (s == t) = false := by
  have : s ≠ t := fun e => by
    rw [e, hC] at hr
    exact h C hr.symm
  simpa using this
theorem pieces {S : List (List Nat)} (h : ∀ L ∈ S, L ∈ splitD 10 s) (hg : ∀ L ∈ S, (lineP L).isNone = false) : ∀ L ∈ S, L.length ≤ 90000 ∧ 10 ∉ L ∧ (lineP L).isNone = false := fun L hL =>
  ⟨Nat.le_trans (split_mem (h L hL)) (by omega), split_pieces _ L (h L hL), hg L hL⟩
theorem lawB_ok (hr : readC s = .cod) : ∃ G, lawB (lE sc b l C t x5 (some (.str s)) (some (.bl false)) (some (.str z_code)) (some (.loc l9)) x10) H = .nx (lE sc b l C t x5 (some (.str s)) (some (.bl false)) (some (.str z_code)) (some (.loc l9)) x10) (H ++ G) := by
  obtain ⟨h1, h2⟩ := readC_cod hr
  have hb := ne_text C t s H l9 hs h9 hC ht hr (fun E => by simp)
  have hix := last_ix C t s H l9 hs h9 hC ht (G := [])
  rw [List.append_nil, h1] at hix
  have hsum := split_sum 10 s
  obtain ⟨y, ys, e⟩ := splitD_cons 10 s
  have hpos : 1 ≤ (splitD 10 s).length := by rw [e]; simp
  have hcut : cutD (splitD 10 s) none (some (-1)) = (splitD 10 s).dropLast := by
    unfold cutD HT.sIx
    simp only [if_pos (show (-1 : Int) < 0 by decide), List.drop_zero, show ((-1 : Int) + ((splitD 10 s).length : Int)).toNat = (splitD 10 s).length - 1 by omega, Nat.sub_zero]
    rw [List.dropLast_eq_take]
  obtain ⟨G, hG⟩ := cLn_ok (M := H) (env := lE sc b l C t x5 (some (.str s)) (some (.bl false)) (some (.str z_code)) (some (.loc l9)) x10) (hi := vPart (vNeg (vC (.int 1)))) (q := -1) (l := l9) (W := splitD 10 s) rfl rfl (by simp) h9 hcut (pieces C t s H l9 hs h9 hC ht (fun L hL => (List.dropLast_sublist _).subset hL) h2) (by rw [List.length_dropLast]; omega)
  refine ⟨G, ?_⟩
  unfold lawB
  have v1 : vTest (vOp opEq (vVar 6) (vVar 3)) (lE sc b l C t x5 (some (.str s)) (some (.bl false)) (some (.str z_code)) (some (.loc l9)) x10) H = .ok false H := by simp [lE, hb]
  have v2 : vTest (vOp opNe (vOp opIx (vVar 9) (vNeg (vC (.int 1)))) (vC (.str z_empty))) (lE sc b l C t x5 (some (.str s)) (some (.bl false)) (some (.str z_code)) (some (.loc l9)) x10) H = .ok false H := by simp [lE, hix, z_empty]
  simp only [es_if, ev_or, v1, v2, hG, Res.bind_ok, Res.st_ok, es_nil]
theorem lawC_ok {p : Nat} (hr : readC s = .txt p) : ∃ G, lawC (lE sc b l C t x5 (some (.str s)) (some (.bl false)) (some (.int p)) (some (.loc l9)) x10) H = .nx (lE sc b l C t x5 (some (.str s)) (some (.bl false)) (some (.int p)) (some (.loc l9)) x10) (H ++ G) := by
  obtain ⟨h1, h2, h3, h4⟩ := readC_txt hr
  have hb := ne_text C t s H l9 hs h9 hC ht hr (fun E => by simp)
  have hsum := split_sum 10 s
  have hp' : (p : Int) < ((splitD 10 s).length : Int) := by omega
  have hln : fLen [.loc l9] H = some (.int ((splitD 10 s).length : Int), H) := by simp [fLen, h9]
  have v1 : vOr (vTest (vOp opEq (vVar 6) (vVar 3))) (vOr (vNot (vTru (vIsi .int (vVar 8)))) (vOr (vTru (vIsi .bool (vVar 8))) (vNot (vTest (vChain opLe opLt (vC (.int 0)) (vVar 8) (vB fLen (vCons (vVar 9) (vNil)))))))) (lE sc b l C t x5 (some (.str s)) (some (.bl false)) (some (.int p)) (some (.loc l9)) x10) H = .ok false H := by
    simp [lE, hb, hln, hp']
  have hcut : cutD (splitD 10 s) none (some (p : Int)) = (splitD 10 s).take p := by
    unfold cutD
    rw [HT.sIx_none, HT.sIx_nat, List.drop_zero, Nat.sub_zero, Nat.min_eq_left (by omega)]
  obtain ⟨G, hG⟩ := cLn_ok (M := H) (env := lE sc b l C t x5 (some (.str s)) (some (.bl false)) (some (.int p)) (some (.loc l9)) x10) (hi := vPart (vVar 8)) (q := p) (l := l9) (W := splitD 10 s) rfl rfl (by simp [lE]) h9 hcut (pieces C t s H l9 hs h9 hC ht (fun L hL => List.mem_of_mem_take hL) h2) (by simp; omega)
  refine ⟨G, ?_⟩
  have h9' : (H ++ G)[l9]? = some (.lst ((splitD 10 s).map D.str)) := by
    rw [List.getElem?_append_left (loc_str h9)]; exact h9
  have hln' : fLen [.loc l9] (H ++ G) = some (.int ((splitD 10 s).length : Int), H ++ G) := by simp [fLen, h9']
  have hix := last_ix C t s H l9 hs h9 hC ht (G := G)
  have v2 : vAnd (vTest (vOp opLt (vVar 8) (vOp opSub (vB fLen (vCons (vVar 9) (vNil))) (vC (.int 1))))) (vNot (vTru (vCallN 1 (callF 114 29) (vCons (vOp opIx (vVar 9) (vVar 8)) (vNil))))) (lE sc b l C t x5 (some (.str s)) (some (.bl false)) (some (.int p)) (some (.loc l9)) x10) (H ++ G) = .ok false (H ++ G) := by
    by_cases hlt : p < (splitD 10 s).length - 1
    · obtain ⟨L, hL, hn⟩ := h3 hlt
      have hlt' : (p : Int) < ((splitD 10 s).length : Int) - 1 := by omega
      have hmem := List.mem_of_getElem? hL
      have hrf : callF 114 29 [.str L] (H ++ G) = .ok (.bl true) (H ++ G) := by
        have := f_refused 74 L (H ++ G) (Nat.le_trans (split_mem hmem) (by omega)) (split_pieces _ L hmem)
        rw [hn] at this; exact this
      have hxp := op_ix_loc (i := p) h9'
      rw [List.getElem?_map, hL] at hxp
      simp [lE, hln', hlt', hxp, hrf]
    · have hlt' : ¬ (p : Int) < ((splitD 10 s).length : Int) - 1 := by omega
      simp [lE, hln', hlt']
  have v3 : vAnd (vTest (vOp opEq (vVar 8) (vOp opSub (vB fLen (vCons (vVar 9) (vNil))) (vC (.int 1))))) (vTest (vOp opEq (vOp opIx (vVar 9) (vNeg (vC (.int 1)))) (vC (.str z_empty)))) (lE sc b l C t x5 (some (.str s)) (some (.bl false)) (some (.int p)) (some (.loc l9)) x10) (H ++ G) = .ok false (H ++ G) := by
    by_cases he : p = (splitD 10 s).length - 1
    · have hlw := h4 he
      have he' : ((p : Int) == ((splitD 10 s).length : Int) - 1) = true := by rw [beq_iff_eq]; omega
      have hw' : (lastW s == z_empty) = false := by simpa [z_empty] using hlw
      simp [lE, hln', he', hix, hw']
    · have he' : ((p : Int) == ((splitD 10 s).length : Int) - 1) = false := by rw [beq_eq_false_iff_ne]; omega
      simp [lE, hln', he']
  unfold lawC
  simp only [es_seq, es_if, v1, Res.st_ok, es_nil, RS.bind_nx]
  rw [ev_or, hG]
  simp only [Res.bind_ok, v2, Res.st_ok, es_nil, RS.bind_nx, es_seq, es_if, v3]
end
noncomputable def lawL : SMs := (sSeq (sAsg (vCallN 3 (callF 114 26) (vCons (vVar 1) (vCons (vVar 3) (vCons (vVar 4) (vNil))))) (gName 6))
    (sSeq (sAsg (vCallN 1 (callF 114 28) (vCons (vVar 6) (vNil))) (gTup 2 (gCons (gName 7) (gCons (gName 8) (gNil)))))
    (sSeq (sAsg (vM "str" mSplit (vVar 6) (vCons (vC (.str z_nl)) (vNil))) (gName 9))
    (sIf (vTru (vVar 7)) lawA (sIf (vTest (vOp opEq (vVar 8) (vC (.str z_code)))) lawB lawC)))))
theorem lawL_ok (B : Bx) (sc : D) (l a : Nat) (C : List Ln) (t : List Nat) (sg : List D) (x5 x6 x7 x8 x9 x10 : Option D) (hl : B.M[l]? = some (.lst sg)) (hlb : l ≠ B.b) (hne : sg ≠ []) (hsg : ∀ x ∈ sg, ∃ z, x = .str z ∧ z.length ≤ 2) (hC : readC t = .ok C) (ht : t.length ≤ 2000) (ha : a ≤ 800000) :
    ∃ y6 y7 y8 y9 c G, a ≤ c ∧ c ≤ a + 10 ∧ lawL (lE sc B.b l C t x5 x6 x7 x8 x9 x10) (B.h a) = .nx (lE sc B.b l C t x5 y6 y7 y8 y9 x10) (B.h c ++ G) := by
  obtain ⟨s, c, h1, h2, h3, h4⟩ := f_bent B 111 a l t sg hl hlb hne hsg (by omega) ha
  have h4 : callF 114 26 [.loc B.b, .str t, .loc l] (B.h a) = .ok (.str s) (B.h c) := h4
  have hrd : callF 114 28 [.str s] (B.h c) = .ok (readC s).told (B.h c) := f_law_read 75 s (B.h c) (by omega)
  have hsum := split_sum 10 s
  have hsp : ∀ M' : Hh, mSplit (.str s) [.str z_nl] M' = some (.loc M'.length, M' ++ [.lst ((splitD 10 s).map D.str)]) := fun M' => by
    show (if s.length + 2 ≤ 16777216 ∧ 10 < 256 then _ else _) = _
    rw [if_pos ⟨by omega, by decide⟩]
  have h9 : (B.h c ++ [MO.lst ((splitD 10 s).map D.str)])[(B.h c).length]? = some (.lst ((splitD 10 s).map D.str)) := by simp
  have step : ∀ g d, (readC s).told = .tup [.bl g, d] → lawL (lE sc B.b l C t x5 x6 x7 x8 x9 x10) (B.h a) = (sIf (vTru (vVar 7)) lawA (sIf (vTest (vOp opEq (vVar 8) (vC (.str z_code)))) lawB lawC)) (lE sc B.b l C t x5 (some (.str s)) (some (.bl g)) (some d) (some (.loc (B.h c).length)) x10) (B.h c ++ [.lst ((splitD 10 s).map D.str)]) := by
    intro g d e
    rw [e] at hrd
    unfold lawL
    simp [lE, h4, hrd, tyM, hsp, -es_if]
  cases hr : readC s with
  | ok E =>
    have hA := lawA_ok sc B.b l C t s x5 x10 _ _ (by omega) h9 hC (by omega) hr
    refine ⟨some (.str s), some (.bl true), some (codeD E), some (.loc (B.h c).length), c, [.lst ((splitD 10 s).map D.str)], h2, h3, ?_⟩
    rw [step true (codeD E) (by rw [hr]; rfl), es_if]
    have v7 : ∀ H, vTru (vVar 7) (lE sc B.b l C t x5 (some (.str s)) (some (.bl true)) (some (codeD E)) (some (.loc (B.h c).length)) x10) H = .ok true H := fun H => by simp [lE]
    rw [v7]
    exact hA
  | cod =>
    obtain ⟨G, hB⟩ := lawB_ok sc B.b l C t s x5 x10 _ _ (by omega) h9 hC (by omega) hr
    refine ⟨some (.str s), some (.bl false), some (.str z_code), some (.loc (B.h c).length), c, [.lst ((splitD 10 s).map D.str)] ++ G, h2, h3, ?_⟩
    rw [step false (.str z_code) (by rw [hr]; rfl), es_if]
    have v7 : ∀ H, vTru (vVar 7) (lE sc B.b l C t x5 (some (.str s)) (some (.bl false)) (some (.str z_code)) (some (.loc (B.h c).length)) x10) H = .ok false H := fun H => by simp [lE]
    have v8 : ∀ H, vTest (vOp opEq (vVar 8) (vC (.str z_code))) (lE sc B.b l C t x5 (some (.str s)) (some (.bl false)) (some (.str z_code)) (some (.loc (B.h c).length)) x10) H = .ok true H := fun H => by simp [lE]
    rw [v7]
    simp only [Res.st_ok]
    rw [es_if, v8, ← List.append_assoc]
    exact hB
  | txt p =>
    obtain ⟨G, hB⟩ := lawC_ok sc B.b l C t s x5 x10 _ _ (by omega) h9 hC (by omega) hr
    refine ⟨some (.str s), some (.bl false), some (.int p), some (.loc (B.h c).length), c, [.lst ((splitD 10 s).map D.str)] ++ G, h2, h3, ?_⟩
    rw [step false (.int p) (by rw [hr]; rfl), es_if]
    have v7 : ∀ H, vTru (vVar 7) (lE sc B.b l C t x5 (some (.str s)) (some (.bl false)) (some (.int p)) (some (.loc (B.h c).length)) x10) H = .ok false H := fun H => by simp [lE]
    have hq : ∀ H, opEq (.int (p : Int)) (.str z_code) H = some (.bl false, H) := fun H => by simp [opEq, seeD, pureD, dep, deq]
    have v8 : ∀ H, vTest (vOp opEq (vVar 8) (vC (.str z_code))) (lE sc B.b l C t x5 (some (.str s)) (some (.bl false)) (some (.int p)) (some (.loc (B.h c).length)) x10) H = .ok false H := fun H => by simp [lE, hq]
    rw [v7]
    simp only [Res.st_ok]
    rw [es_if, v8, ← List.append_assoc]
    exact hB
end Gm.K28

set_option Elab.async false
set_option linter.all false
set_option maxRecDepth 100000
set_option maxHeartbeats 1000000
set_option autoImplicit false
namespace Gm.K28
open Gm
open L2
/-! ### the law -/
theorem t2_like : T2.all (fun t => likeOk t.toD) = true := by decide +kernel
theorem drawn_like {many : Nat} (x : Ln) (h : drawn many x = true) : likeOk x.toD = true := by
  cases x with
  | stop => rfl
  | doL n =>
    simp only [drawn, Bool.or_eq_true] at h
    rcases h with (h | h) | h
    · rw [eq_of_beq h]; rfl
    · rw [eq_of_beq h]; rfl
    · rw [eq_of_beq h]; rfl
  | goL g => rfl
  | un t g =>
    simp only [drawn, Bool.and_eq_true, decide_eq_true_eq] at h
    have := List.all_eq_true.mp t2_like t h.1
    show likeOk (.tup [.str z_unless, t.toD, .int g]) = true
    have z1 : z_unless.length ≤ 1000000 := by decide
    simp [likeOk, likeOks, this, z1]
theorem likeOks_map {α : Type} (f : α → D) : ∀ l : List α, (∀ x ∈ l, likeOk (f x) = true) → likeOks (l.map f) = true
  | [], _ => rfl
  | x :: l, h => by
    simp only [List.map_cons, likeOks, Bool.and_eq_true]
    exact ⟨h x (by simp), likeOks_map f l fun y hy => h y (List.mem_cons_of_mem _ hy)⟩
def sgD : List D := [.str z_sp, .str z_0, .str z_1, .str z_9, .str z_a, .str z_p, .str z_bang, .str z_lp, .str z_rp, .str z_amp, .str z_bar, .str z_nl, .str z_go, .str z_00, .str z_if, .str z_A]
theorem sg_ok : ∀ x ∈ sgD, ∃ z, x = .str z ∧ z.length ≤ 2 := by
  intro x hx
  simp only [sgD, List.mem_cons, List.not_mem_nil, or_false] at hx
  rcases hx with rfl | rfl | rfl | rfl | rfl | rfl | rfl | rfl | rfl | rfl | rfl | rfl | rfl | rfl | rfl | rfl <;> exact ⟨_, rfl, by decide⟩
theorem sum_le_mul {l : List Nat} {c : Nat} (h : ∀ x ∈ l, x ≤ c) : l.sum ≤ c * l.length := by
  induction l with
  | nil => simp
  | cons x l ih =>
    have h1 := h x (by simp)
    have h2 := ih fun y hy => h y (List.mem_cons_of_mem _ hy)
    simp only [List.sum_cons, List.length_cons, Nat.mul_add]; omega
noncomputable def lawE : SMs := (sSeq (sIf (vOr (vNot (vTru (vCallN 2 (callF 114 25) (vCons (vCallN 1 (callF 114 28) (vCons (vC .non) (vNil))) (vCons (vTup (vCons (vC (.bl false)) (vCons (vC (.str z_text)) (vNil)))) (vNil)))))) (vNot (vTru (vCallN 2 (callF 114 25) (vCons (vCallN 1 (callF 114 28) (vCons (vC (.str z_empty)) (vNil))) (vCons (vTup (vCons (vC (.bl true)) (vCons (vTup (vNil)) (vNil)))) (vNil))))))) (sRet (vC (.bl false))) (sNil))
    (sRet (vAndT (vCallN 2 (callF 114 25) (vCons (vCallN 1 (callF 114 28) (vCons (vC (.str z_go_1_)) (vNil))) (vCons (vTup (vCons (vC (.bl true)) (vCons (vTup (vCons (vTup (vCons (vC (.str z_go)) (vCons (vC (.int 1)) (vNil)))) (vNil))) (vNil)))) (vNil)))) (vCallN 2 (callF 114 25) (vCons (vCallN 1 (callF 114 28) (vCons (vC (.str z_go_2_)) (vNil))) (vCons (vTup (vCons (vC (.bl false)) (vCons (vC (.str z_code)) (vNil)))) (vNil)))))))
theorem read_empty : readC z_empty = .ok [] := readC_of [] (by simp) rfl
theorem read_go1 : readC z_go_1_ = .ok [.goL 1] := by
  have e : fmtC [.goL 1] = z_go_1_ := by decide +kernel
  rw [← e]
  refine readC_of [.goL 1] (fun x hx => ?_) rfl
  have := List.mem_singleton.mp hx
  subst this
  exact ⟨rfl, rfl, by decide +kernel⟩
theorem read_go2 : readC z_go_2_ = .cod := by
  have e : z_go_2_ = fmtL (.goL 2) ++ z_nl := by decide +kernel
  rw [e, readC_line (by decide +kernel), lineP_fmt (.goL 2) rfl rfl]
  rfl
theorem lawE_ok (env : Ev) (H : Hh) : (lawE env H).res = .ok (.bl true) H := by
  have r1 : callF 114 28 [.non] H = .ok (.tup [.bl false, .str z_text]) H := f_law_read_non 112 H
  have r2 : callF 114 28 [.str z_empty] H = .ok (.tup [.bl true, .tup []]) H := by
    have := f_law_read 75 z_empty H (by decide)
    rw [read_empty] at this; exact this
  have r3 : callF 114 28 [.str z_go_1_] H = .ok (.tup [.bl true, .tup [.tup [.str z_go, .int 1]]]) H := by
    have := f_law_read 75 z_go_1_ H (by decide)
    rw [read_go1] at this; exact this
  have r4 : callF 114 28 [.str z_go_2_] H = .ok (.tup [.bl false, .str z_code]) H := by
    have := f_law_read 75 z_go_2_ H (by decide)
    rw [read_go2] at this; exact this
  have l1 := f_like 10 114 (.tup [.bl false, .str z_text]) H (by decide) (by decide) (by decide)
  have l2 := f_like 10 114 (.tup [.bl true, .tup []]) H (by decide) (by decide) (by decide)
  have l3 := f_like 10 114 (.tup [.bl true, .tup [.tup [.str z_go, .int 1]]]) H (by decide) (by decide) (by decide)
  have l4 := f_like 10 114 (.tup [.bl false, .str z_code]) H (by decide) (by decide) (by decide)
  simp [lawE, r1, r2, r3, r4, l1, l2, l3, l4]
theorem law_loop (B : Bx) (sc : D) (l a : Nat) (C : List Ln) (t : List Nat) (sg : List D) (x5 x6 x7 x8 x9 x10 : Option D) (hl : B.M[l]? = some (.lst sg)) (hlb : l ≠ B.b) (hne : sg ≠ []) (hsg : ∀ x ∈ sg, ∃ z, x = .str z ∧ z.length ≤ 2) (hC : readC t = .ok C) (ht : t.length ≤ 2000) (ha : a ≤ 1000) :
    ∃ env' M', loopF (itR 0 16) (gName 5) lawL NN 0 (lE sc B.b l C t x5 x6 x7 x8 x9 x10) (B.h a) = .nx env' M' := by
  obtain ⟨env', M', h, _⟩ := for_inv (n := 16) (lo := 0) (g := gName 5) (b := lawL) (fun j env M' => ∃ (G : Hh) (c : Nat) (z5 z6 z7 z8 z9 : Option D), c ≤ a + 10 * j ∧ env = lE sc B.b l C t z5 z6 z7 z8 z9 x10 ∧ M' = (B.ext G).h c)
    (fun j env M' hj ⟨G, c, z5, z6, z7, z8, z9, h1, h2, h3⟩ => by
      subst h2; subst h3
      have hlt := loc_str hl
      obtain ⟨y6, y7, y8, y9, c', G', h4, h5, h6⟩ := lawL_ok (B.ext G) sc l c C t sg (some (.int ((0 : Int) + j))) z6 z7 z8 z9 x10 (by
        show (B.M ++ G)[l]? = _
        rw [List.getElem?_append_left hlt]; exact hl) hlb hne hsg hC ht (by omega)
      refine ⟨_, _, h6, G ++ G', c', _, y6, y7, y8, y9, by omega, rfl, ?_⟩
      rw [bx_ext, bx_ext, List.append_assoc]) 16 0 NN (lE sc B.b l C t x5 x6 x7 x8 x9 x10) (B.h a) (by omega) (by unfold NN; omega) ⟨[], a, x5, x6, x7, x8, x9, by omega, rfl, by rw [bx_ext, List.append_nil]⟩
  exact ⟨env', M', h⟩
theorem law_run (ns : List Int) : ∃ M', ((m_law (callF 114)) (startD 11 [.frz (ns.map D.int)]) []).res = .ok (.bl true) M' := by
  obtain ⟨ds, hd⟩ := f_digits 113 ns []
  have hd : callF 114 20 [.frz (ns.map D.int), .int 0, .int 63] [] = .ok (.loc 0) [.lst (ds.map D.int)] := hd
  let B0 : Bx := ⟨[.lst (ds.map D.int), bxO 0 0], 1, 0, ds, by simp, rfl, by decide⟩
  obtain ⟨many, C, a, hm, hCl, hCd, _, ha, hco⟩ := f_law_code B0 108 0 (by omega)
  have hco : callF 114 27 [.loc 1] [.lst (ds.map D.int), .lst [.loc 0, .int 0]] = .ok (codeD C) (B0.h a) := hco
  have hok := fun x hx => drawn_ok hm x (hCd x hx)
  have hoC : okC C = true := by
    simp only [okC, Bool.and_eq_true, decide_eq_true_eq, List.all_eq_true]
    exact ⟨by omega, fun x hx => by rw [hCl]; exact (hok x hx).2.2.2.1⟩
  have hfl : (fmtC C).length ≤ 2000 := by
    unfold fmtC
    rw [List.length_flatten, List.map_map]
    have := sum_le_mul (l := C.map (List.length ∘ fun x => fmtL x ++ z_nl)) (c := 131) (by
      intro y hy
      obtain ⟨x, hx, rfl⟩ := List.mem_map.mp hy
      have := (hok x hx).2.2.2.2.1
      simp [z_nl]; omega)
    rw [List.length_map] at this
    omega
  have hrC : readC (fmtC C) = .ok C := readC_of C (fun x hx => ⟨(hok x hx).1, (hok x hx).2.1, (hok x hx).2.2.1⟩) hoC
  have hfm : callF 114 17 [codeD C] (B0.h a) = .ok (.str (fmtC C)) (B0.h a) := f_format_code 88 C (B0.h a) (fun x hx => (hok x hx).1) (by omega) hoC (by omega)
  have hrd : callF 114 28 [.str (fmtC C)] (B0.h a) = .ok (.tup [.bl true, codeD C]) (B0.h a) := by
    have := f_law_read 75 (fmtC C) (B0.h a) (by omega)
    rw [hrC] at this; exact this
  have hct := code_tame C fun x hx => (hok x hx).1
  have hlk := f_like 20 114 (.tup [.bl true, codeD C]) (B0.h a) (by
    have := hct.2.1
    simp only [dep, deps] at this ⊢; omega) (by decide) (by
    have h1 := likeOks_map Ln.toD C fun x hx => drawn_like x (hCd x hx)
    have h2 : C.length ≤ 1000000 := by omega
    simp [likeOk, likeOks, codeD, h1, h2])
  have hBl : (B0.h a).length = 2 := bx_len B0 a
  obtain ⟨env', M', hlo⟩ := law_loop (B0.ext [.lst sgD]) (.frz (ns.map D.int)) 2 a C (fmtC C) sgD none none none none none none rfl (by show (2 : Nat) ≠ 1; decide) (by simp [sgD]) sg_ok hrC hfl (by omega)
  have hr16 : ∀ env H, vRange1 (vC (.int 16)) env H = .ok (itR 0 16) H := fun env H => range1_ok (n := 16) rfl (small_nat (by omega))
  refine ⟨M', ?_⟩
  have e0 : m_law (callF 114) = sSeq (sAsg (vLst (vCons (vCallN 3 (callF 114 20) (vCons (vVar 0) (vCons (vC (.int 0)) (vCons (vC (.int 63)) (vNil))))) (vCons (vC (.int 0)) (vNil)))) (gName 1))
    (sSeq (sAsg (vCallN 1 (callF 114 27) (vCons (vVar 1) (vNil))) (gName 2))
    (sSeq (sAsg (vCallN 1 (callF 114 17) (vCons (vVar 2) (vNil))) (gName 3))
    (sSeq (sIf (vNot (vTru (vCallN 2 (callF 114 25) (vCons (vCallN 1 (callF 114 28) (vCons (vVar 3) (vNil))) (vCons (vTup (vCons (vC (.bl true)) (vCons (vVar 2) (vNil)))) (vNil)))))) (sRet (vC (.bl false))) (sNil))
    (sSeq (sAsg (vLst (vCons (vC (.str z_sp)) (vCons (vC (.str z_0)) (vCons (vC (.str z_1)) (vCons (vC (.str z_9)) (vCons (vC (.str z_a)) (vCons (vC (.str z_p)) (vCons (vC (.str z_bang)) (vCons (vC (.str z_lp)) (vCons (vC (.str z_rp)) (vCons (vC (.str z_amp)) (vCons (vC (.str z_bar)) (vCons (vC (.str z_nl)) (vCons (vC (.str z_go)) (vCons (vC (.str z_00)) (vCons (vC (.str z_if)) (vCons (vC (.str z_A)) (vNil)))))))))))))))))) (gName 4))
    (sSeq (sFor (vRange1 (vC (.int 16))) (gName 5) lawL) lawE))))) := rfl
  have hsg : ∀ H : Hh, vLst (vCons (vC (.str z_sp)) (vCons (vC (.str z_0)) (vCons (vC (.str z_1)) (vCons (vC (.str z_9)) (vCons (vC (.str z_a)) (vCons (vC (.str z_p)) (vCons (vC (.str z_bang)) (vCons (vC (.str z_lp)) (vCons (vC (.str z_rp)) (vCons (vC (.str z_amp)) (vCons (vC (.str z_bar)) (vCons (vC (.str z_nl)) (vCons (vC (.str z_go)) (vCons (vC (.str z_00)) (vCons (vC (.str z_if)) (vCons (vC (.str z_A)) (vNil))))))))))))))))) [some (.frz (ns.map D.int)), some (.loc 1), some (codeD C), some (.str (fmtC C)), none, none, none, none, none, none, none] H = .ok (.loc H.length) (H ++ [.lst sgD]) := fun H => by
    simp [sgD]
  rw [e0, start1]
  clear e0
  generalize vRange1 (vC (.int 16)) = r16 at hr16 ⊢
  simp only [es_seq, es_asg, ev_lst, ev_cons, ev_call, ev_var, ev_C, ev_nil, List.replicate, List.getElem?_cons_zero, Res.bind_ok, List.length_cons, List.length_nil, Nat.zero_add, Nat.reduceAdd, if_true, hd, Nat.reduceLeDiff, Res.st_ok, es_name, List.set_cons_succ, List.set_cons_zero, RS.bind_nx, List.getElem?_cons_succ, List.cons_append, List.nil_append, hco, hfm]
  simp only [es_if, ev_not, ev_tru, ev_call, ev_cons, ev_var, ev_C, ev_nil, ev_tup, List.getElem?_cons_zero, List.getElem?_cons_succ, Res.bind_ok, List.length_cons, List.length_nil, Nat.zero_add, Nat.reduceAdd, if_true, hrd, Nat.reduceLeDiff, hlk, tru_bl, Bool.not_true, Res.st_ok, es_nil, RS.bind_nx]
  rw [es_seq, es_asg, hsg]
  simp only [Res.st_ok, es_name, RS.bind_nx, es_seq, List.set_cons_succ, List.set_cons_zero, hBl, es_for, hr16, RS.bind_nx]
  rw [bx_ext] at hlo
  have hlo : loopF (itR 0 16) (gName 5) lawL NN 0 [some (.frz (ns.map D.int)), some (.loc 1), some (codeD C), some (.str (fmtC C)), some (.loc 2), none, none, none, none, none, none] (B0.h a ++ [.lst sgD]) = .nx env' M' := hlo
  rw [hlo]
  simp only [RS.bind_nx]
  exact lawE_ok env' M'
end Gm.K28

set_option Elab.async false
set_option linter.all false
set_option maxRecDepth 100000
set_option maxHeartbeats 0
set_option autoImplicit false
/-! K28w: printed by gen.py: each def keeps to what K28m says -/
namespace Gm.K28
open Gm PySem PySem.Spec PyProof.Rows L2
theorem xz_0123456789 : ("0123456789" : Str) = ⟨z_0123456789.toArray⟩ := by decide +kernel
theorem oz_0123456789 : (z_0123456789.all fun c => decide (c < 1114112)) = true := by decide +kernel
theorem xz_word : ("word" : Str) = ⟨z_word.toArray⟩ := by decide +kernel
theorem oz_word : (z_word.all fun c => decide (c < 1114112)) = true := by decide +kernel
theorem xz_mark : ("mark" : Str) = ⟨z_mark.toArray⟩ := by decide +kernel
theorem oz_mark : (z_mark.all fun c => decide (c < 1114112)) = true := by decide +kernel
theorem xz_strange : ("strange" : Str) = ⟨z_strange.toArray⟩ := by decide +kernel
theorem oz_strange : (z_strange.all fun c => decide (c < 1114112)) = true := by decide +kernel
theorem xz_empty : ("" : Str) = ⟨z_empty.toArray⟩ := by decide +kernel
theorem oz_empty : (z_empty.all fun c => decide (c < 1114112)) = true := by decide +kernel
theorem xz___ : (" \n" : Str) = ⟨z___.toArray⟩ := by decide +kernel
theorem oz___ : (z___.all fun c => decide (c < 1114112)) = true := by decide +kernel
theorem xz_not : ("not" : Str) = ⟨z_not.toArray⟩ := by decide +kernel
theorem oz_not : (z_not.all fun c => decide (c < 1114112)) = true := by decide +kernel
theorem xz_and : ("and" : Str) = ⟨z_and.toArray⟩ := by decide +kernel
theorem oz_and : (z_and.all fun c => decide (c < 1114112)) = true := by decide +kernel
theorem xz_or : ("or" : Str) = ⟨z_or.toArray⟩ := by decide +kernel
theorem oz_or : (z_or.all fun c => decide (c < 1114112)) = true := by decide +kernel
theorem xz_is : ("is" : Str) = ⟨z_is.toArray⟩ := by decide +kernel
theorem oz_is : (z_is.all fun c => decide (c < 1114112)) = true := by decide +kernel
theorem xz_yes : ("yes" : Str) = ⟨z_yes.toArray⟩ := by decide +kernel
theorem oz_yes : (z_yes.all fun c => decide (c < 1114112)) = true := by decide +kernel
theorem xz_no : ("no" : Str) = ⟨z_no.toArray⟩ := by decide +kernel
theorem oz_no : (z_no.all fun c => decide (c < 1114112)) = true := by decide +kernel
theorem xz_test : ("test" : Str) = ⟨z_test.toArray⟩ := by decide +kernel
theorem oz_test : (z_test.all fun c => decide (c < 1114112)) = true := by decide +kernel
theorem xz_sbars : (" | " : Str) = ⟨z_sbars.toArray⟩ := by decide +kernel
theorem oz_sbars : (z_sbars.all fun c => decide (c < 1114112)) = true := by decide +kernel
theorem xz_samps : (" & " : Str) = ⟨z_samps.toArray⟩ := by decide +kernel
theorem oz_samps : (z_samps.all fun c => decide (c < 1114112)) = true := by decide +kernel
theorem xz_bang : ("!" : Str) = ⟨z_bang.toArray⟩ := by decide +kernel
theorem oz_bang : (z_bang.all fun c => decide (c < 1114112)) = true := by decide +kernel
theorem xz_lp : ("(" : Str) = ⟨z_lp.toArray⟩ := by decide +kernel
theorem oz_lp : (z_lp.all fun c => decide (c < 1114112)) = true := by decide +kernel
theorem xz_rp : (")" : Str) = ⟨z_rp.toArray⟩ := by decide +kernel
theorem oz_rp : (z_rp.all fun c => decide (c < 1114112)) = true := by decide +kernel
theorem xz_text : ("text" : Str) = ⟨z_text.toArray⟩ := by decide +kernel
theorem oz_text : (z_text.all fun c => decide (c < 1114112)) = true := by decide +kernel
theorem xz_bar : ("|" : Str) = ⟨z_bar.toArray⟩ := by decide +kernel
theorem oz_bar : (z_bar.all fun c => decide (c < 1114112)) = true := by decide +kernel
theorem xz_amp : ("&" : Str) = ⟨z_amp.toArray⟩ := by decide +kernel
theorem oz_amp : (z_amp.all fun c => decide (c < 1114112)) = true := by decide +kernel
theorem xz_shape : ("shape" : Str) = ⟨z_shape.toArray⟩ := by decide +kernel
theorem oz_shape : (z_shape.all fun c => decide (c < 1114112)) = true := by decide +kernel
theorem xz_unless : ("unless" : Str) = ⟨z_unless.toArray⟩ := by decide +kernel
theorem oz_unless : (z_unless.all fun c => decide (c < 1114112)) = true := by decide +kernel
theorem xz_go : ("go" : Str) = ⟨z_go.toArray⟩ := by decide +kernel
theorem oz_go : (z_go.all fun c => decide (c < 1114112)) = true := by decide +kernel
theorem xz_stop : ("stop" : Str) = ⟨z_stop.toArray⟩ := by decide +kernel
theorem oz_stop : (z_stop.all fun c => decide (c < 1114112)) = true := by decide +kernel
theorem xz_do : ("do" : Str) = ⟨z_do.toArray⟩ := by decide +kernel
theorem oz_do : (z_do.all fun c => decide (c < 1114112)) = true := by decide +kernel
theorem xz_code : ("code" : Str) = ⟨z_code.toArray⟩ := by decide +kernel
theorem oz_code : (z_code.all fun c => decide (c < 1114112)) = true := by decide +kernel
theorem xz_nl : ("\n" : Str) = ⟨z_nl.toArray⟩ := by decide +kernel
theorem oz_nl : (z_nl.all fun c => decide (c < 1114112)) = true := by decide +kernel
theorem xz_unless_ : ("unless " : Str) = ⟨z_unless_.toArray⟩ := by decide +kernel
theorem oz_unless_ : (z_unless_.all fun c => decide (c < 1114112)) = true := by decide +kernel
theorem xz__go_ : (" go " : Str) = ⟨z__go_.toArray⟩ := by decide +kernel
theorem oz__go_ : (z__go_.all fun c => decide (c < 1114112)) = true := by decide +kernel
theorem xz_sp : (" " : Str) = ⟨z_sp.toArray⟩ := by decide +kernel
theorem oz_sp : (z_sp.all fun c => decide (c < 1114112)) = true := by decide +kernel
theorem xz_p : ("p" : Str) = ⟨z_p.toArray⟩ := by decide +kernel
theorem oz_p : (z_p.all fun c => decide (c < 1114112)) = true := by decide +kernel
theorem xz_q : ("q" : Str) = ⟨z_q.toArray⟩ := by decide +kernel
theorem oz_q : (z_q.all fun c => decide (c < 1114112)) = true := by decide +kernel
theorem xz_abcdef : ("abcdef" : Str) = ⟨z_abcdef.toArray⟩ := by decide +kernel
theorem oz_abcdef : (z_abcdef.all fun c => decide (c < 1114112)) = true := by decide +kernel
theorem xz_a : ("a" : Str) = ⟨z_a.toArray⟩ := by decide +kernel
theorem oz_a : (z_a.all fun c => decide (c < 1114112)) = true := by decide +kernel
theorem xz_b : ("b" : Str) = ⟨z_b.toArray⟩ := by decide +kernel
theorem oz_b : (z_b.all fun c => decide (c < 1114112)) = true := by decide +kernel
theorem xz_go_2_ : ("go 2\n" : Str) = ⟨z_go_2_.toArray⟩ := by decide +kernel
theorem oz_go_2_ : (z_go_2_.all fun c => decide (c < 1114112)) = true := by decide +kernel
theorem xz_go_1_ : ("go 1\n" : Str) = ⟨z_go_1_.toArray⟩ := by decide +kernel
theorem oz_go_1_ : (z_go_1_.all fun c => decide (c < 1114112)) = true := by decide +kernel
theorem xz_0 : ("0" : Str) = ⟨z_0.toArray⟩ := by decide +kernel
theorem oz_0 : (z_0.all fun c => decide (c < 1114112)) = true := by decide +kernel
theorem xz_1 : ("1" : Str) = ⟨z_1.toArray⟩ := by decide +kernel
theorem oz_1 : (z_1.all fun c => decide (c < 1114112)) = true := by decide +kernel
theorem xz_9 : ("9" : Str) = ⟨z_9.toArray⟩ := by decide +kernel
theorem oz_9 : (z_9.all fun c => decide (c < 1114112)) = true := by decide +kernel
theorem xz_00 : ("00" : Str) = ⟨z_00.toArray⟩ := by decide +kernel
theorem oz_00 : (z_00.all fun c => decide (c < 1114112)) = true := by decide +kernel
theorem xz_if : ("if" : Str) = ⟨z_if.toArray⟩ := by decide +kernel
theorem oz_if : (z_if.all fun c => decide (c < 1114112)) = true := by decide +kernel
theorem xz_A : ("A" : Str) = ⟨z_A.toArray⟩ := by decide +kernel
theorem oz_A : (z_A.all fun c => decide (c < 1114112)) = true := by decide +kernel
theorem xz_abcdefghijklmnopqrstuvwx : ("abcdefghijklmnopqrstuvwxyz" : Str) = ⟨z_abcdefghijklmnopqrstuvwx.toArray⟩ := by decide +kernel
theorem oz_abcdefghijklmnopqrstuvwx : (z_abcdefghijklmnopqrstuvwx.all fun c => decide (c < 1114112)) = true := by decide +kernel
theorem xz______________01 : ("!&|(){};+.*[]01" : Str) = ⟨z______________01.toArray⟩ := by decide +kernel
theorem oz______________01 : (z______________01.all fun c => decide (c < 1114112)) = true := by decide +kernel
theorem xz_skip : ("skip" : Str) = ⟨z_skip.toArray⟩ := by decide +kernel
theorem oz_skip : (z_skip.all fun c => decide (c < 1114112)) = true := by decide +kernel
theorem xz_assume : ("assume" : Str) = ⟨z_assume.toArray⟩ := by decide +kernel
theorem oz_assume : (z_assume.all fun c => decide (c < 1114112)) = true := by decide +kernel
theorem xz_else : ("else" : Str) = ⟨z_else.toArray⟩ := by decide +kernel
theorem oz_else : (z_else.all fun c => decide (c < 1114112)) = true := by decide +kernel
theorem xz_while : ("while" : Str) = ⟨z_while.toArray⟩ := by decide +kernel
theorem oz_while : (z_while.all fun c => decide (c < 1114112)) = true := by decide +kernel
theorem xz_choose : ("choose" : Str) = ⟨z_choose.toArray⟩ := by decide +kernel
theorem oz_choose : (z_choose.all fun c => decide (c < 1114112)) = true := by decide +kernel
theorem xz_loop : ("loop" : Str) = ⟨z_loop.toArray⟩ := by decide +kernel
theorem oz_loop : (z_loop.all fun c => decide (c < 1114112)) = true := by decide +kernel
theorem nd_BadText : (("BadText" : Str) == ("__debug__" : Str)) = false := by decide +kernel
theorem nd_BadThing : (("BadThing" : Str) == ("__debug__" : Str)) = false := by decide +kernel
theorem nd_HEIGHTS : (("HEIGHTS" : Str) == ("__debug__" : Str)) = false := by decide +kernel
theorem nd_LETTERS : (("LETTERS" : Str) == ("__debug__" : Str)) = false := by decide +kernel
theorem nd_MARKS : (("MARKS" : Str) == ("__debug__" : Str)) = false := by decide +kernel
theorem nd_MOST_DEEP : (("MOST_DEEP" : Str) == ("__debug__" : Str)) = false := by decide +kernel
theorem nd_MOST_LINES : (("MOST_LINES" : Str) == ("__debug__" : Str)) = false := by decide +kernel
theorem nd_Signs : (("Signs" : Str) == ("__debug__" : Str)) = false := by decide +kernel
theorem nd_WORDS : (("WORDS" : Str) == ("__debug__" : Str)) = false := by decide +kernel
theorem nd__law_bent_text : (("_law_bent_text" : Str) == ("__debug__" : Str)) = false := by decide +kernel
theorem nd__law_code : (("_law_code" : Str) == ("__debug__" : Str)) = false := by decide +kernel
theorem nd__law_digits : (("_law_digits" : Str) == ("__debug__" : Str)) = false := by decide +kernel
theorem nd__law_draw : (("_law_draw" : Str) == ("__debug__" : Str)) = false := by decide +kernel
theorem nd__law_is_refused : (("_law_is_refused" : Str) == ("__debug__" : Str)) = false := by decide +kernel
theorem nd__law_like : (("_law_like" : Str) == ("__debug__" : Str)) = false := by decide +kernel
theorem nd__law_pick : (("_law_pick" : Str) == ("__debug__" : Str)) = false := by decide +kernel
theorem nd__law_read : (("_law_read" : Str) == ("__debug__" : Str)) = false := by decide +kernel
theorem nd__law_same : (("_law_same" : Str) == ("__debug__" : Str)) = false := by decide +kernel
theorem nd__law_test : (("_law_test" : Str) == ("__debug__" : Str)) = false := by decide +kernel
theorem nd_bracketed : (("bracketed" : Str) == ("__debug__" : Str)) = false := by decide +kernel
theorem nd_check_code : (("check_code" : Str) == ("__debug__" : Str)) = false := by decide +kernel
theorem nd_check_test : (("check_test" : Str) == ("__debug__" : Str)) = false := by decide +kernel
theorem nd_code_fault : (("code_fault" : Str) == ("__debug__" : Str)) = false := by decide +kernel
theorem nd_format_code : (("format_code" : Str) == ("__debug__" : Str)) = false := by decide +kernel
theorem nd_format_test : (("format_test" : Str) == ("__debug__" : Str)) = false := by decide +kernel
theorem nd_inner_of : (("inner_of" : Str) == ("__debug__" : Str)) = false := by decide +kernel
theorem nd_is_figures : (("is_figures" : Str) == ("__debug__" : Str)) = false := by decide +kernel
theorem nd_is_integer : (("is_integer" : Str) == ("__debug__" : Str)) = false := by decide +kernel
theorem nd_is_line : (("is_line" : Str) == ("__debug__" : Str)) = false := by decide +kernel
theorem nd_is_name : (("is_name" : Str) == ("__debug__" : Str)) = false := by decide +kernel
theorem nd_is_test : (("is_test" : Str) == ("__debug__" : Str)) = false := by decide +kernel
theorem nd_line_of : (("line_of" : Str) == ("__debug__" : Str)) = false := by decide +kernel
theorem nd_read_and : (("read_and" : Str) == ("__debug__" : Str)) = false := by decide +kernel
theorem nd_read_code : (("read_code" : Str) == ("__debug__" : Str)) = false := by decide +kernel
theorem nd_read_least : (("read_least" : Str) == ("__debug__" : Str)) = false := by decide +kernel
theorem nd_read_or : (("read_or" : Str) == ("__debug__" : Str)) = false := by decide +kernel
theorem nd_read_test : (("read_test" : Str) == ("__debug__" : Str)) = false := by decide +kernel
theorem nd_signs_of : (("signs_of" : Str) == ("__debug__" : Str)) = false := by decide +kernel
theorem nd_written : (("written" : Str) == ("__debug__" : Str)) = false := by decide +kernel
theorem bt_all : bootBuiltins "all" = some (.builtin "all") := by decide +kernel
theorem bt_bool : bootBuiltins "bool" = some (.type "bool") := by decide +kernel
theorem bt_int : bootBuiltins "int" = some (.type "int") := by decide +kernel
theorem bt_len : bootBuiltins "len" = some (.builtin "len") := by decide +kernel
theorem bt_list : bootBuiltins "list" = some (.type "list") := by decide +kernel
theorem bt_repr : bootBuiltins "repr" = some (.builtin "repr") := by decide +kernel
theorem bt_str : bootBuiltins "str" = some (.type "str") := by decide +kernel
theorem bt_tuple : bootBuiltins "tuple" = some (.type "tuple") := by decide +kernel
abbrev prog : Program := PySem.Challenge.pw_guardmill_k28_codes_as_texts_bent
def st (i : Nat) : Stmt := prog.main.body.getD i (.Pass ⟨0, 0, 0, 0⟩)
abbrev t_is_integer : Stmt := st 7
abbrev t_is_name : Stmt := st 8
abbrev t_is_figures : Stmt := st 9
abbrev t_signs_of : Stmt := st 12
abbrev t_is_test : Stmt := st 17
abbrev t_inner_of : Stmt := st 18
abbrev t_check_test : Stmt := st 19
abbrev t_format_test : Stmt := st 20
abbrev t_written : Stmt := st 21
abbrev t_bracketed : Stmt := st 22
abbrev t_read_test : Stmt := st 23
abbrev t_read_or : Stmt := st 24
abbrev t_read_and : Stmt := st 25
abbrev t_read_least : Stmt := st 26
abbrev t_code_fault : Stmt := st 29
abbrev t_is_line : Stmt := st 30
abbrev t_check_code : Stmt := st 31
abbrev t_format_code : Stmt := st 32
abbrev t_read_code : Stmt := st 33
abbrev t_line_of : Stmt := st 34
abbrev t__law_digits : Stmt := st 36
abbrev t__law_draw : Stmt := st 37
abbrev t__law_pick : Stmt := st 38
abbrev t__law_same : Stmt := st 39
abbrev t__law_test : Stmt := st 40
abbrev t__law_like : Stmt := st 41
abbrev t__law_bent_text : Stmt := st 42
abbrev t__law_code : Stmt := st 43
abbrev t__law_read : Stmt := st 44
abbrev t__law_is_refused : Stmt := st 45
abbrev t_law : Stmt := st 46
abbrev t_Signs___init__ : Stmt := inClass (st 13) 0
abbrev t_Signs_place : Stmt := inClass (st 13) 1
abbrev t_Signs_sees : Stmt := inClass (st 13) 2
abbrev t_Signs_word : Stmt := inClass (st 13) 3
abbrev t_Signs_take : Stmt := inClass (st 13) 4
abbrev t_Signs_took : Stmt := inClass (st 13) 5
abbrev t_Signs_done : Stmt := inClass (st 13) 6
abbrev t_BadThing___init__ : Stmt := inClass (st 2) 0
abbrev t_BadText___init__ : Stmt := inClass (st 3) 0
abbrev attrs : List Str := ["reason", "place", "done", "took", "take", "word", "sees", "at", "end", "rows"]
/-- a written dict of texts -/
structure KdOk (T : Tab) (x : Str) (tab : List (List Nat × D)) : Prop where
  ex : ∃ (ad : Addr) (es : Array DictEntry) (n : Nat), T.mg x = some (.ref ad) ∧ T.K.lookup ad = some ⟨.type "dict", none, .dict es n, #[]⟩ ∧ PySem.W.KeysLit T.w.params es.toList ∧ ∀ p ∈ tab, ∃ u, PySem.W.nsIn T.K ad ⟨p.1.toArray⟩ = some (some u) ∧ KLit u p.2
theorem KdOk.rule {T : Tab} {N : List Str} {sc : Scope} {k : Nat} {cm : Bool} {a : Expr} {ma : SMo D} {pos p : Pos} {x : Str} {tab : List (List Nat × D)} (K : KdOk T x tab) (hg : sc.names.lookup x = some .globalImplicit) (ha : SE T N sc k cm a ma) (hdb : (x == ("__debug__" : Str)) = false) (hs : PlainIx a := by intro _ _; rfl) : SE T N sc k cm (.Subscript (.Name x p) a pos) (vKd tab ma) := by
  obtain ⟨ad, es, n, h1, h2, h3, h4⟩ := K.ex
  exact se_kd hg h1 h2 h3 h4 ha hdb hs
structure Tx (T : Tab) : Prop where
  f0 : FunK T 0 "is_integer" "is_integer" t_is_integer ["thing"]
  f1 : FunK T 1 "is_name" "is_name" t_is_name ["thing"]
  f2 : FunK T 2 "is_figures" "is_figures" t_is_figures ["word"]
  f3 : FunK T 3 "signs_of" "signs_of" t_signs_of ["text"]
  f4 : FunK T 4 "is_test" "is_test" t_is_test ["thing"]
  f5 : FunK T 5 "inner_of" "inner_of" t_inner_of ["thing"]
  f6 : FunK T 6 "check_test" "check_test" t_check_test ["test"]
  f7 : FunK T 7 "format_test" "format_test" t_format_test ["test"]
  f8 : FunK T 8 "written" "written" t_written ["test"]
  f9 : FunK T 9 "bracketed" "bracketed" t_bracketed ["test", "least"]
  f10 : FunK T 10 "read_test" "read_test" t_read_test ["text"]
  f11 : FunK T 11 "read_or" "read_or" t_read_or ["signs", "deep"]
  f12 : FunK T 12 "read_and" "read_and" t_read_and ["signs", "deep"]
  f13 : FunK T 13 "read_least" "read_least" t_read_least ["signs", "deep"]
  f14 : FunK T 14 "code_fault" "code_fault" t_code_fault ["thing"]
  f15 : FunK T 15 "is_line" "is_line" t_is_line ["thing", "many"]
  f16 : FunK T 16 "check_code" "check_code" t_check_code ["code"]
  f17 : FunK T 17 "format_code" "format_code" t_format_code ["code"]
  f18 : FunK T 18 "read_code" "read_code" t_read_code ["text"]
  f19 : FunK T 19 "line_of" "line_of" t_line_of ["text"]
  f20 : FunK T 20 "_law_digits" "_law_digits" t__law_digits ["script", "first", "last"]
  f21 : FunK T 21 "_law_draw" "_law_draw" t__law_draw ["box", "many"]
  f22 : FunK T 22 "_law_pick" "_law_pick" t__law_pick ["box", "things"]
  f23 : FunK T 23 "_law_same" "_law_same" t__law_same ["a", "b"]
  f24 : FunK T 24 "_law_test" "_law_test" t__law_test ["box", "names", "down"]
  f25 : FunK T 25 "_law_like" "_law_like" t__law_like ["told", "due"]
  f26 : FunK T 26 "_law_bent_text" "_law_bent_text" t__law_bent_text ["box", "text", "signs"]
  f27 : FunK T 27 "_law_code" "_law_code" t__law_code ["box"]
  f28 : FunK T 28 "_law_read" "_law_read" t__law_read ["text"]
  f29 : FunK T 29 "_law_is_refused" "_law_is_refused" t__law_is_refused ["line"]
  f30 : FunK T 30 "law" "law" t_law ["script"]
  f31 : FunK T 31 "__init__" "Signs.__init__" t_Signs___init__ ["self", "text"]
  f32 : FunK T 32 "place" "Signs.place" t_Signs_place ["self"]
  f33 : FunK T 33 "sees" "Signs.sees" t_Signs_sees ["self", "text"]
  f34 : FunK T 34 "word" "Signs.word" t_Signs_word ["self"]
  f35 : FunK T 35 "take" "Signs.take" t_Signs_take ["self", "text"]
  f36 : FunK T 36 "took" "Signs.took" t_Signs_took ["self", "text"]
  f37 : FunK T 37 "done" "Signs.done" t_Signs_done ["self"]
  g_BadText : T.mg "BadText" = some (.ref (T.adr 40))
  g_BadThing : T.mg "BadThing" = some (.ref (T.adr 39))
  g_Signs : T.mg "Signs" = some (.ref (T.adr 41))
  g__law_bent_text : T.mg "_law_bent_text" = some (.ref (T.adr 26))
  g__law_code : T.mg "_law_code" = some (.ref (T.adr 27))
  g__law_digits : T.mg "_law_digits" = some (.ref (T.adr 20))
  g__law_draw : T.mg "_law_draw" = some (.ref (T.adr 21))
  g__law_is_refused : T.mg "_law_is_refused" = some (.ref (T.adr 29))
  g__law_like : T.mg "_law_like" = some (.ref (T.adr 25))
  g__law_pick : T.mg "_law_pick" = some (.ref (T.adr 22))
  g__law_read : T.mg "_law_read" = some (.ref (T.adr 28))
  g__law_same : T.mg "_law_same" = some (.ref (T.adr 23))
  g__law_test : T.mg "_law_test" = some (.ref (T.adr 24))
  g_bracketed : T.mg "bracketed" = some (.ref (T.adr 9))
  g_check_code : T.mg "check_code" = some (.ref (T.adr 16))
  g_check_test : T.mg "check_test" = some (.ref (T.adr 6))
  g_code_fault : T.mg "code_fault" = some (.ref (T.adr 14))
  g_format_code : T.mg "format_code" = some (.ref (T.adr 17))
  g_format_test : T.mg "format_test" = some (.ref (T.adr 7))
  g_inner_of : T.mg "inner_of" = some (.ref (T.adr 5))
  g_is_figures : T.mg "is_figures" = some (.ref (T.adr 2))
  g_is_integer : T.mg "is_integer" = some (.ref (T.adr 0))
  g_is_line : T.mg "is_line" = some (.ref (T.adr 15))
  g_is_name : T.mg "is_name" = some (.ref (T.adr 1))
  g_is_test : T.mg "is_test" = some (.ref (T.adr 4))
  g_line_of : T.mg "line_of" = some (.ref (T.adr 19))
  g_read_and : T.mg "read_and" = some (.ref (T.adr 12))
  g_read_code : T.mg "read_code" = some (.ref (T.adr 18))
  g_read_least : T.mg "read_least" = some (.ref (T.adr 13))
  g_read_or : T.mg "read_or" = some (.ref (T.adr 11))
  g_read_test : T.mg "read_test" = some (.ref (T.adr 10))
  g_signs_of : T.mg "signs_of" = some (.ref (T.adr 3))
  g_written : T.mg "written" = some (.ref (T.adr 8))
  n_all : T.mg "all" = none
  n_bool : T.mg "bool" = none
  n_enumerate : T.mg "enumerate" = none
  n_int : T.mg "int" = none
  n_isinstance : T.mg "isinstance" = none
  n_len : T.mg "len" = none
  n_list : T.mg "list" = none
  n_range : T.mg "range" = none
  n_repr : T.mg "repr" = none
  n_str : T.mg "str" = none
  n_tuple : T.mg "tuple" = none
  kd_HEIGHTS : KdOk T "HEIGHTS" k_HEIGHTS
  c_LETTERS : GC T "LETTERS" k_LETTERS
  c_MARKS : GC T "MARKS" k_MARKS
  c_MOST_DEEP : GC T "MOST_DEEP" k_MOST_DEEP
  c_MOST_LINES : GC T "MOST_LINES" k_MOST_LINES
  c_WORDS : GC T "WORDS" k_WORDS
  a0 : T.nm 0 = "reason"
  a1 : T.nm 1 = "place"
  a2 : T.nm 2 = "done"
  a3 : T.nm 3 = "took"
  a4 : T.nm 4 = "take"
  a5 : T.nm 5 = "word"
  a6 : T.nm 6 = "sees"
  a7 : T.nm 7 = "at"
  a8 : T.nm 8 = "end"
  a9 : T.nm 9 = "rows"
  cl_Signs : Cls T.K (T.adr 41)
  mk_Signs : Mk T.K (T.adr 41) (T.adr 31)
  me_Signs_done : Meth T.K (T.adr 41) "done" (T.adr 37)
  me_Signs_place : Meth T.K (T.adr 41) "place" (T.adr 32)
  me_Signs_sees : Meth T.K (T.adr 41) "sees" (T.adr 33)
  me_Signs_take : Meth T.K (T.adr 41) "take" (T.adr 35)
  me_Signs_took : Meth T.K (T.adr 41) "took" (T.adr 36)
  me_Signs_word : Meth T.K (T.adr 41) "word" (T.adr 34)
  cf_Signs_at : ClsF T 41 7
  cf_Signs_end : ClsF T 41 8
  cf_Signs_rows : ClsF T 41 9
  er_BadText : ErrK T 40 ["place"] [(1, 0)]
  er_BadThing : ErrK T 39 ["reason"] [(0, 0)]
  xf_BadText_place : XfC T.K (T.adr 40) ∧ PySem.W.findIn T.K (.ref (T.adr 40)) "place" = some none
  xf_BadThing_reason : XfC T.K (T.adr 39) ∧ PySem.W.findIn T.K (.ref (T.adr 39)) "reason" = some none
  em_BadText_BadText : PySem.W.exmOne T.K (.ref (T.adr 40)) (.ref (T.adr 40)) = some true
  em_BadText_BadThing : PySem.W.exmOne T.K (.ref (T.adr 40)) (.ref (T.adr 39)) = some false
  em_BadThing_BadText : PySem.W.exmOne T.K (.ref (T.adr 39)) (.ref (T.adr 40)) = some false
  em_BadThing_BadThing : PySem.W.exmOne T.K (.ref (T.adr 39)) (.ref (T.adr 39)) = some true
abbrev N_is_integer : List Str := ["thing"]
theorem s_is_integer : FnScope N_is_integer ["thing"] (defScope t_is_integer) := fnScope_by (by decide +kernel)
theorem vis_integer_thing : Nm N_is_integer (defScope t_is_integer) "thing" 0 := nm_by (by decide +kernel)
theorem w_is_integer {T : Tab} (X : Tx T) {k : Nat} {c : Nat → Fn} (h : ∀ g n, ar g = some n → FnA T k (T.adr g) n (c g)) : SB T N_is_integer (defScope t_is_integer) k true (defBody t_is_integer) (m_is_integer c) :=
  sb_one (ss_ret (se_and (se_isi .int (by decide +kernel) X.n_isinstance (se_v vis_integer_thing) (by decide +kernel) X.n_int bt_int) (se_one (se_not (se_isi .bool (by decide +kernel) X.n_isinstance (se_v vis_integer_thing) (by decide +kernel) X.n_bool bt_bool)))))
abbrev N_is_name : List Str := ["thing", "sign"]
theorem s_is_name : FnScope N_is_name ["thing"] (defScope t_is_name) := fnScope_by (by decide +kernel)
theorem vis_name_thing : Nm N_is_name (defScope t_is_name) "thing" 0 := nm_by (by decide +kernel)
theorem w_is_name {T : Tab} (X : Tx T) {k : Nat} {c : Nat → Fn} (h : ∀ g n, ar g = some n → FnA T k (T.adr g) n (c g)) : SB T N_is_name (defScope t_is_name) k true (defBody t_is_name) (m_is_name c) :=
  sb_cons (ss_if (st_w (sw_or (st_not (st_tru (se_isi .str (by decide +kernel) X.n_isinstance (se_v vis_name_thing) (by decide +kernel) X.n_str bt_str))) (sw_or (st_not (st_chain og_le og_le (se_int) (se_bi cg_len (by decide +kernel) X.n_len bt_len (sa_cons (se_v vis_name_thing) (sa_nil))) (se_int))) (sw_or1 (st_cmp og_in (se_v vis_name_thing) (se_glob (by decide +kernel) X.c_WORDS nd_WORDS)))))) (sb_one (ss_ret (se_bl))) (sb_nil))
    (sb_one (ss_ret (se_bi cg_all (by decide +kernel) X.n_all bt_all (sa_cons (se_comp (own := [("sign", 1)]) (sh := .one 1) (si_str (se_v vis_name_thing)) (blkOk_by (by decide +kernel)) (by decide) (tg_v (i := 1) rfl (by decide +kernel)) (sts_nil) (se_cmp og_in (se_v (i := 1) (nm_by (by decide +kernel))) (se_glob (by decide +kernel) X.c_LETTERS nd_LETTERS))) (sa_nil)))))
abbrev N_is_figures : List Str := ["word", "sign"]
theorem s_is_figures : FnScope N_is_figures ["word"] (defScope t_is_figures) := fnScope_by (by decide +kernel)
theorem vis_figures_word : Nm N_is_figures (defScope t_is_figures) "word" 0 := nm_by (by decide +kernel)
theorem w_is_figures {T : Tab} (X : Tx T) {k : Nat} {c : Nat → Fn} (h : ∀ g n, ar g = some n → FnA T k (T.adr g) n (c g)) : SB T N_is_figures (defScope t_is_figures) k true (defBody t_is_figures) (m_is_figures c) :=
  sb_one (ss_ret (se_and (se_chain og_le og_le (se_int) (se_bi cg_len (by decide +kernel) X.n_len bt_len (sa_cons (se_v vis_figures_word) (sa_nil))) (se_int)) (se_and (se_bi cg_all (by decide +kernel) X.n_all bt_all (sa_cons (se_comp (own := [("sign", 1)]) (sh := .one 1) (si_str (se_v vis_figures_word)) (blkOk_by (by decide +kernel)) (by decide) (tg_v (i := 1) rfl (by decide +kernel)) (sts_nil) (se_cmp og_in (se_v (i := 1) (nm_by (by decide +kernel))) (se_str xz_0123456789 oz_0123456789))) (sa_nil))) (se_one (se_cmp og_eq (se_ty cg_str (by decide +kernel) X.n_str bt_str (sa_cons (se_ty cg_int (by decide +kernel) X.n_int bt_int (sa_cons (se_v vis_figures_word) (sa_nil))) (sa_nil))) (se_v vis_figures_word))))))
abbrev N_signs_of : List Str := ["text", "found", "at", "end"]
theorem s_signs_of : FnScope N_signs_of ["text"] (defScope t_signs_of) := fnScope_by (by decide +kernel)
theorem vsigns_of_found : Nm N_signs_of (defScope t_signs_of) "found" 1 := nm_by (by decide +kernel)
theorem vsigns_of_at : Nm N_signs_of (defScope t_signs_of) "at" 2 := nm_by (by decide +kernel)
theorem vsigns_of_text : Nm N_signs_of (defScope t_signs_of) "text" 0 := nm_by (by decide +kernel)
theorem vsigns_of_end : Nm N_signs_of (defScope t_signs_of) "end" 3 := nm_by (by decide +kernel)
theorem lsigns_of_at : NmL N_signs_of (defScope t_signs_of) "at" 2 := nml_by (by decide +kernel)
theorem lsigns_of_end : NmL N_signs_of (defScope t_signs_of) "end" 3 := nml_by (by decide +kernel)
theorem lsigns_of_found : NmL N_signs_of (defScope t_signs_of) "found" 1 := nml_by (by decide +kernel)
theorem w_signs_of {T : Tab} (X : Tx T) {k : Nat} {c : Nat → Fn} (h : ∀ g n, ar g = some n → FnA T k (T.adr g) n (c g)) : SB T N_signs_of (defScope t_signs_of) k true (defBody t_signs_of) (m_signs_of c) :=
  sb_cons (ss_parv lsigns_of_found lsigns_of_at (by decide) rfl (by decide +kernel) (by decide +kernel) (by decide +kernel) (se_lst (sa_nil)) (se_int))
    (sb_cons (ss_while (st_cmp og_lt (se_v vsigns_of_at) (se_bi cg_len (by decide +kernel) X.n_len bt_len (sa_cons (se_v vsigns_of_text) (sa_nil)))) (sb_cons (ss_v lsigns_of_end (se_op og_add (se_v vsigns_of_at) (se_int)))
    (sb_cons (ss_if (st_cmp og_in (se_ix og_ix (se_v vsigns_of_text) (se_v vsigns_of_at)) (se_str xz___ oz___)) (sb_cons (ss_v lsigns_of_at (se_v vsigns_of_end))
    (sb_one (ss_continue))) (sb_nil))
    (sb_cons (ss_if (st_cmp og_in (se_ix og_ix (se_v vsigns_of_text) (se_v vsigns_of_at)) (se_glob (by decide +kernel) X.c_LETTERS nd_LETTERS)) (sb_cons (ss_while (st_w (sw_and (st_cmp og_lt (se_v vsigns_of_end) (se_bi cg_len (by decide +kernel) X.n_len bt_len (sa_cons (se_v vsigns_of_text) (sa_nil)))) (sw_and1 (st_cmp og_in (se_ix og_ix (se_v vsigns_of_text) (se_v vsigns_of_end)) (se_glob (by decide +kernel) X.c_LETTERS nd_LETTERS))))) (sb_one (ss_augv lsigns_of_end og_iadd (se_int))))
    (sb_one (ss_expr (se_m F.plainAttrs_list F.slot_list_append F.type_list_append mg_append (se_v vsigns_of_found) (sa_cons (se_tup (sa_cons (se_str xz_word oz_word) (sa_cons (se_slice (se_v vsigns_of_text) (sp_some (se_v vsigns_of_at)) (sp_some (se_v vsigns_of_end))) (sa_cons (se_v vsigns_of_at) (sa_nil))))) (sa_nil)))))) (sb_one (ss_if (st_cmp og_in (se_ix og_ix (se_v vsigns_of_text) (se_v vsigns_of_at)) (se_glob (by decide +kernel) X.c_MARKS nd_MARKS)) (sb_one (ss_expr (se_m F.plainAttrs_list F.slot_list_append F.type_list_append mg_append (se_v vsigns_of_found) (sa_cons (se_tup (sa_cons (se_str xz_mark oz_mark) (sa_cons (se_ix og_ix (se_v vsigns_of_text) (se_v vsigns_of_at)) (sa_cons (se_v vsigns_of_at) (sa_nil))))) (sa_nil))))) (sb_one (ss_ret (se_ty cg_tuple (by decide +kernel) X.n_tuple bt_tuple (sa_cons (se_op og_add (se_v vsigns_of_found) (se_lst (sa_cons (se_tup (sa_cons (se_str xz_strange oz_strange) (sa_cons (se_str xz_empty oz_empty) (sa_cons (se_v vsigns_of_at) (sa_nil))))) (sa_nil)))) (sa_nil))))))))
    (sb_one (ss_v lsigns_of_at (se_v vsigns_of_end)))))))
    (sb_one (ss_ret (se_ty cg_tuple (by decide +kernel) X.n_tuple bt_tuple (sa_cons (se_v vsigns_of_found) (sa_nil))))))
abbrev N_is_test : List Str := ["thing", "todo", "here", "deep", "inner", "one"]
theorem s_is_test : FnScope N_is_test ["thing"] (defScope t_is_test) := fnScope_by (by decide +kernel)
theorem vis_test_todo : Nm N_is_test (defScope t_is_test) "todo" 1 := nm_by (by decide +kernel)
theorem vis_test_inner : Nm N_is_test (defScope t_is_test) "inner" 4 := nm_by (by decide +kernel)
theorem vis_test_deep : Nm N_is_test (defScope t_is_test) "deep" 3 := nm_by (by decide +kernel)
theorem vis_test_here : Nm N_is_test (defScope t_is_test) "here" 2 := nm_by (by decide +kernel)
theorem vis_test_thing : Nm N_is_test (defScope t_is_test) "thing" 0 := nm_by (by decide +kernel)
theorem lis_test_todo : NmL N_is_test (defScope t_is_test) "todo" 1 := nml_by (by decide +kernel)
theorem lis_test_inner : NmL N_is_test (defScope t_is_test) "inner" 4 := nml_by (by decide +kernel)
theorem lis_test_deep : NmL N_is_test (defScope t_is_test) "deep" 3 := nml_by (by decide +kernel)
theorem lis_test_here : NmL N_is_test (defScope t_is_test) "here" 2 := nml_by (by decide +kernel)
theorem w_is_test {T : Tab} (X : Tx T) {k : Nat} {c : Nat → Fn} (h : ∀ g n, ar g = some n → FnA T k (T.adr g) n (c g)) : SB T N_is_test (defScope t_is_test) k true (defBody t_is_test) (m_is_test c) :=
  sb_cons (ss_v lis_test_todo (se_lst (sa_cons (se_tup (sa_cons (se_v vis_test_thing) (sa_cons (se_int) (sa_nil)))) (sa_nil))))
    (sb_cons (ss_while (st_tru (se_v vis_test_todo)) (sb_cons (ss_asg (se_m0 F.plainAttrs_list F.slot_list_pop F.type_list_pop mg_pop (se_v vis_test_todo)) (sg_tup (sgs_cons (sg_v lis_test_here) (sgs_cons (sg_v lis_test_deep) (sgs_nil)))) (okg_tup (okgs_cons (okg_name _) (okgs_cons (okg_name _) okgs_nil))))
    (sb_cons (ss_v lis_test_inner (se_call (h 5 1 rfl) (by decide +kernel) X.g_inner_of (sa_cons (se_v vis_test_here) (sa_nil)) nd_inner_of))
    (sb_cons (ss_if (st_w (sw_or (st_cmp og_is (se_v vis_test_inner) (se_non)) (sw_or1 (st_cmp og_gt (se_v vis_test_deep) (se_glob (by decide +kernel) X.c_MOST_DEEP nd_MOST_DEEP))))) (sb_one (ss_ret (se_bl))) (sb_nil))
    (sb_one (ss_augv lis_test_todo og_iadd (se_comp (own := [("one", 5)]) (sh := .one 5) (si_tup (se_v vis_test_inner)) (blkOk_by (by decide +kernel)) (by decide) (tg_v (i := 5) rfl (by decide +kernel)) (sts_nil) (se_tup (sa_cons (se_v (i := 5) (nm_by (by decide +kernel))) (sa_cons (se_op og_add (se_v (i := 3) (nm_by (by decide +kernel))) (se_int)) (sa_nil)))))))))))
    (sb_one (ss_ret (se_bl))))
abbrev N_inner_of : List Str := ["thing", "wanted"]
theorem s_inner_of : FnScope N_inner_of ["thing"] (defScope t_inner_of) := fnScope_by (by decide +kernel)
theorem vinner_of_thing : Nm N_inner_of (defScope t_inner_of) "thing" 0 := nm_by (by decide +kernel)
theorem vinner_of_wanted : Nm N_inner_of (defScope t_inner_of) "wanted" 1 := nm_by (by decide +kernel)
theorem linner_of_wanted : NmL N_inner_of (defScope t_inner_of) "wanted" 1 := nml_by (by decide +kernel)
theorem w_inner_of {T : Tab} (X : Tx T) {k : Nat} {c : Nat → Fn} (h : ∀ g n, ar g = some n → FnA T k (T.adr g) n (c g)) : SB T N_inner_of (defScope t_inner_of) k true (defBody t_inner_of) (m_inner_of c) :=
  sb_cons (ss_if (st_w (sw_or (st_not (st_tru (se_isi .tuple (by decide +kernel) X.n_isinstance (se_v vinner_of_thing) (by decide +kernel) X.n_tuple bt_tuple))) (sw_or1 (st_not (st_tru (se_v vinner_of_thing)))))) (sb_one (ss_ret (se_non))) (sb_nil))
    (sb_cons (ss_if (st_cmp og_in (se_v vinner_of_thing) (se_tup (sa_cons (se_tup (sa_cons (se_str xz_yes oz_yes) (sa_nil))) (sa_cons (se_tup (sa_cons (se_str xz_no oz_no) (sa_nil))) (sa_nil))))) (sb_one (ss_ret (se_tup (sa_nil)))) (sb_nil))
    (sb_cons (ss_if (st_cmp og_eq (se_ix og_ix (se_v vinner_of_thing) (se_int)) (se_str xz_is oz_is)) (sb_one (ss_ret (se_ifx (st_w (sw_and (st_cmp og_eq (se_bi cg_len (by decide +kernel) X.n_len bt_len (sa_cons (se_v vinner_of_thing) (sa_nil))) (se_int)) (sw_and1 (st_tru (se_call (h 1 1 rfl) (by decide +kernel) X.g_is_name (sa_cons (se_ix og_ix (se_v vinner_of_thing) (se_int)) (sa_nil)) nd_is_name))))) (se_tup (sa_nil)) (se_non)))) (sb_nil))
    (sb_cons (ss_v linner_of_wanted (se_ifx (st_cmp og_eq (se_ix og_ix (se_v vinner_of_thing) (se_int)) (se_str xz_not oz_not)) (se_int) (se_ifx (st_cmp og_in (se_ix og_ix (se_v vinner_of_thing) (se_int)) (se_tup (sa_cons (se_str xz_and oz_and) (sa_cons (se_str xz_or oz_or) (sa_nil))))) (se_int) (se_int))))
    (sb_one (ss_ret (se_ifx (st_cmp og_eq (se_bi cg_len (by decide +kernel) X.n_len bt_len (sa_cons (se_v vinner_of_thing) (sa_nil))) (se_v vinner_of_wanted)) (se_slice (se_v vinner_of_thing) (sp_some (se_int)) (sp_no)) (se_non)))))))
abbrev N_check_test : List Str := ["test"]
theorem s_check_test : FnScope N_check_test ["test"] (defScope t_check_test) := fnScope_by (by decide +kernel)
theorem vcheck_test_test : Nm N_check_test (defScope t_check_test) "test" 0 := nm_by (by decide +kernel)
theorem w_check_test {T : Tab} (X : Tx T) {k : Nat} {c : Nat → Fn} (h : ∀ g n, ar g = some n → FnA T k (T.adr g) n (c g)) : SB T N_check_test (defScope t_check_test) k true (defBody t_check_test) (m_check_test c) :=
  sb_one (ss_if (st_not (st_tru (se_call (h 4 1 rfl) (by decide +kernel) X.g_is_test (sa_cons (se_v vcheck_test_test) (sa_nil)) nd_is_test))) (sb_one (ss_raiseK X.er_BadThing (by decide +kernel) X.g_BadThing nd_BadThing (sa_cons (se_str xz_test oz_test) (sa_nil)))) (sb_nil))
abbrev N_format_test : List Str := ["test"]
theorem s_format_test : FnScope N_format_test ["test"] (defScope t_format_test) := fnScope_by (by decide +kernel)
theorem vformat_test_test : Nm N_format_test (defScope t_format_test) "test" 0 := nm_by (by decide +kernel)
theorem w_format_test {T : Tab} (X : Tx T) {k : Nat} {c : Nat → Fn} (h : ∀ g n, ar g = some n → FnA T k (T.adr g) n (c g)) : SB T N_format_test (defScope t_format_test) k true (defBody t_format_test) (m_format_test c) :=
  sb_cons (ss_expr (se_call (h 6 1 rfl) (by decide +kernel) X.g_check_test (sa_cons (se_v vformat_test_test) (sa_nil)) nd_check_test))
    (sb_one (ss_ret (se_ix og_ix (se_call (h 8 1 rfl) (by decide +kernel) X.g_written (sa_cons (se_v vformat_test_test) (sa_nil)) nd_written) (se_int))))
abbrev N_written : List Str := ["test", "kind", "high", "mark"]
theorem s_written : FnScope N_written ["test"] (defScope t_written) := fnScope_by (by decide +kernel)
theorem vwritten_test : Nm N_written (defScope t_written) "test" 0 := nm_by (by decide +kernel)
theorem vwritten_high : Nm N_written (defScope t_written) "high" 2 := nm_by (by decide +kernel)
theorem vwritten_mark : Nm N_written (defScope t_written) "mark" 3 := nm_by (by decide +kernel)
theorem vwritten_kind : Nm N_written (defScope t_written) "kind" 1 := nm_by (by decide +kernel)
theorem lwritten_mark : NmL N_written (defScope t_written) "mark" 3 := nml_by (by decide +kernel)
theorem lwritten_high : NmL N_written (defScope t_written) "high" 2 := nml_by (by decide +kernel)
theorem lwritten_kind : NmL N_written (defScope t_written) "kind" 1 := nml_by (by decide +kernel)
theorem w_written {T : Tab} (X : Tx T) {k : Nat} {c : Nat → Fn} (h : ∀ g n, ar g = some n → FnA T k (T.adr g) n (c g)) : SB T N_written (defScope t_written) k true (defBody t_written) (m_written c) :=
  sb_cons (ss_v lwritten_kind (se_ix og_ix (se_v vwritten_test) (se_int)))
    (sb_cons (ss_if (st_cmp og_in (se_v vwritten_kind) (se_tup (sa_cons (se_str xz_yes oz_yes) (sa_cons (se_str xz_no oz_no) (sa_nil))))) (sb_one (ss_ret (se_tup (sa_cons (se_v vwritten_kind) (sa_cons (se_int) (sa_nil)))))) (sb_nil))
    (sb_cons (ss_if (st_cmp og_eq (se_v vwritten_kind) (se_str xz_is oz_is)) (sb_one (ss_ret (se_tup (sa_cons (se_ix og_ix (se_v vwritten_test) (se_int)) (sa_cons (se_int) (sa_nil)))))) (sb_nil))
    (sb_cons (ss_if (st_cmp og_eq (se_v vwritten_kind) (se_str xz_not oz_not)) (sb_one (ss_ret (se_tup (sa_cons (se_op og_add (se_str xz_bang oz_bang) (se_call (h 9 2 rfl) (by decide +kernel) X.g_bracketed (sa_cons (se_ix og_ix (se_v vwritten_test) (se_int)) (sa_cons (se_int) (sa_nil))) nd_bracketed)) (sa_cons (se_int) (sa_nil)))))) (sb_nil))
    (sb_cons (ss_v lwritten_high (X.kd_HEIGHTS.rule (by decide +kernel) (se_v vwritten_kind) nd_HEIGHTS))
    (sb_cons (ss_v lwritten_mark (se_ifx (st_cmp og_eq (se_v vwritten_kind) (se_str xz_or oz_or)) (se_str xz_sbars oz_sbars) (se_str xz_samps oz_samps)))
    (sb_one (ss_ret (se_tup (sa_cons (se_op og_add (se_op og_add (se_call (h 9 2 rfl) (by decide +kernel) X.g_bracketed (sa_cons (se_ix og_ix (se_v vwritten_test) (se_int)) (sa_cons (se_v vwritten_high) (sa_nil))) nd_bracketed) (se_v vwritten_mark)) (se_call (h 9 2 rfl) (by decide +kernel) X.g_bracketed (sa_cons (se_ix og_ix (se_v vwritten_test) (se_int)) (sa_cons (se_op og_add (se_v vwritten_high) (se_int)) (sa_nil))) nd_bracketed)) (sa_cons (se_v vwritten_high) (sa_nil)))))))))))
abbrev N_bracketed : List Str := ["test", "least", "text", "high"]
theorem s_bracketed : FnScope N_bracketed ["test", "least"] (defScope t_bracketed) := fnScope_by (by decide +kernel)
theorem vbracketed_high : Nm N_bracketed (defScope t_bracketed) "high" 3 := nm_by (by decide +kernel)
theorem vbracketed_least : Nm N_bracketed (defScope t_bracketed) "least" 1 := nm_by (by decide +kernel)
theorem vbracketed_text : Nm N_bracketed (defScope t_bracketed) "text" 2 := nm_by (by decide +kernel)
theorem vbracketed_test : Nm N_bracketed (defScope t_bracketed) "test" 0 := nm_by (by decide +kernel)
theorem lbracketed_high : NmL N_bracketed (defScope t_bracketed) "high" 3 := nml_by (by decide +kernel)
theorem lbracketed_text : NmL N_bracketed (defScope t_bracketed) "text" 2 := nml_by (by decide +kernel)
theorem w_bracketed {T : Tab} (X : Tx T) {k : Nat} {c : Nat → Fn} (h : ∀ g n, ar g = some n → FnA T k (T.adr g) n (c g)) : SB T N_bracketed (defScope t_bracketed) k true (defBody t_bracketed) (m_bracketed c) :=
  sb_cons (ss_asg (se_call (h 8 1 rfl) (by decide +kernel) X.g_written (sa_cons (se_v vbracketed_test) (sa_nil)) nd_written) (sg_tup (sgs_cons (sg_v lbracketed_text) (sgs_cons (sg_v lbracketed_high) (sgs_nil)))) (okg_tup (okgs_cons (okg_name _) (okgs_cons (okg_name _) okgs_nil))))
    (sb_one (ss_ret (se_ifx (st_cmp og_ge (se_v vbracketed_high) (se_v vbracketed_least)) (se_v vbracketed_text) (se_op og_add (se_op og_add (se_str xz_lp oz_lp) (se_v vbracketed_text)) (se_str xz_rp oz_rp)))))
abbrev N_read_test : List Str := ["text", "signs", "test"]
theorem s_read_test : FnScope N_read_test ["text"] (defScope t_read_test) := fnScope_by (by decide +kernel)
theorem vread_test_test : Nm N_read_test (defScope t_read_test) "test" 2 := nm_by (by decide +kernel)
theorem vread_test_text : Nm N_read_test (defScope t_read_test) "text" 0 := nm_by (by decide +kernel)
theorem vread_test_signs : Nm N_read_test (defScope t_read_test) "signs" 1 := nm_by (by decide +kernel)
theorem lread_test_test : NmL N_read_test (defScope t_read_test) "test" 2 := nml_by (by decide +kernel)
theorem lread_test_signs : NmL N_read_test (defScope t_read_test) "signs" 1 := nml_by (by decide +kernel)
theorem w_read_test {T : Tab} (X : Tx T) {k : Nat} {c : Nat → Fn} (h : ∀ g n, ar g = some n → FnA T k (T.adr g) n (c g)) : SB T N_read_test (defScope t_read_test) k true (defBody t_read_test) (m_read_test c) :=
  sb_cons (ss_if (st_not (st_tru (se_isi .str (by decide +kernel) X.n_isinstance (se_v vread_test_text) (by decide +kernel) X.n_str bt_str))) (sb_one (ss_raiseK X.er_BadThing (by decide +kernel) X.g_BadThing nd_BadThing (sa_cons (se_str xz_text oz_text) (sa_nil)))) (sb_nil))
    (sb_cons (ss_v lread_test_signs (se_make 41 (h 31 2 rfl) X.mk_Signs (by decide +kernel) X.g_Signs (sa_cons (se_v vread_test_text) (sa_nil)) nd_Signs))
    (sb_cons (ss_v lread_test_test (se_call (h 11 2 rfl) (by decide +kernel) X.g_read_or (sa_cons (se_v vread_test_signs) (sa_cons (se_int) (sa_nil))) nd_read_or))
    (sb_cons (ss_expr (se_meth0 41 2 X.a2 X.cl_Signs X.me_Signs_done (h 37 1 rfl) (se_v vread_test_signs)))
    (sb_cons (ss_if (st_not (st_tru (se_call (h 4 1 rfl) (by decide +kernel) X.g_is_test (sa_cons (se_v vread_test_test) (sa_nil)) nd_is_test))) (sb_one (ss_raiseK X.er_BadText (by decide +kernel) X.g_BadText nd_BadText (sa_cons (se_bi cg_len (by decide +kernel) X.n_len bt_len (sa_cons (se_v vread_test_text) (sa_nil))) (sa_nil)))) (sb_nil))
    (sb_one (ss_ret (se_v vread_test_test)))))))
abbrev N_read_or : List Str := ["signs", "deep", "test"]
theorem s_read_or : FnScope N_read_or ["signs", "deep"] (defScope t_read_or) := fnScope_by (by decide +kernel)
theorem vread_or_test : Nm N_read_or (defScope t_read_or) "test" 2 := nm_by (by decide +kernel)
theorem vread_or_signs : Nm N_read_or (defScope t_read_or) "signs" 0 := nm_by (by decide +kernel)
theorem vread_or_deep : Nm N_read_or (defScope t_read_or) "deep" 1 := nm_by (by decide +kernel)
theorem lread_or_test : NmL N_read_or (defScope t_read_or) "test" 2 := nml_by (by decide +kernel)
theorem w_read_or {T : Tab} (X : Tx T) {k : Nat} {c : Nat → Fn} (h : ∀ g n, ar g = some n → FnA T k (T.adr g) n (c g)) : SB T N_read_or (defScope t_read_or) k true (defBody t_read_or) (m_read_or c) :=
  sb_cons (ss_v lread_or_test (se_call (h 12 2 rfl) (by decide +kernel) X.g_read_and (sa_cons (se_v vread_or_signs) (sa_cons (se_v vread_or_deep) (sa_nil))) nd_read_and))
    (sb_cons (ss_while (st_tru (se_meth 41 3 X.a3 X.cl_Signs X.me_Signs_took (h 36 2 rfl) (se_v vread_or_signs) (sa_cons (se_str xz_bar oz_bar) (sa_nil)))) (sb_one (ss_v lread_or_test (se_tup (sa_cons (se_str xz_or oz_or) (sa_cons (se_v vread_or_test) (sa_cons (se_call (h 12 2 rfl) (by decide +kernel) X.g_read_and (sa_cons (se_v vread_or_signs) (sa_cons (se_v vread_or_deep) (sa_nil))) nd_read_and) (sa_nil))))))))
    (sb_one (ss_ret (se_v vread_or_test))))
abbrev N_read_and : List Str := ["signs", "deep", "test"]
theorem s_read_and : FnScope N_read_and ["signs", "deep"] (defScope t_read_and) := fnScope_by (by decide +kernel)
theorem vread_and_test : Nm N_read_and (defScope t_read_and) "test" 2 := nm_by (by decide +kernel)
theorem vread_and_signs : Nm N_read_and (defScope t_read_and) "signs" 0 := nm_by (by decide +kernel)
theorem vread_and_deep : Nm N_read_and (defScope t_read_and) "deep" 1 := nm_by (by decide +kernel)
theorem lread_and_test : NmL N_read_and (defScope t_read_and) "test" 2 := nml_by (by decide +kernel)
theorem w_read_and {T : Tab} (X : Tx T) {k : Nat} {c : Nat → Fn} (h : ∀ g n, ar g = some n → FnA T k (T.adr g) n (c g)) : SB T N_read_and (defScope t_read_and) k true (defBody t_read_and) (m_read_and c) :=
  sb_cons (ss_v lread_and_test (se_call (h 13 2 rfl) (by decide +kernel) X.g_read_least (sa_cons (se_v vread_and_signs) (sa_cons (se_v vread_and_deep) (sa_nil))) nd_read_least))
    (sb_cons (ss_while (st_tru (se_meth 41 3 X.a3 X.cl_Signs X.me_Signs_took (h 36 2 rfl) (se_v vread_and_signs) (sa_cons (se_str xz_amp oz_amp) (sa_nil)))) (sb_one (ss_v lread_and_test (se_tup (sa_cons (se_str xz_and oz_and) (sa_cons (se_v vread_and_test) (sa_cons (se_call (h 13 2 rfl) (by decide +kernel) X.g_read_least (sa_cons (se_v vread_and_signs) (sa_cons (se_v vread_and_deep) (sa_nil))) nd_read_least) (sa_nil))))))))
    (sb_one (ss_ret (se_v vread_and_test))))
abbrev N_read_least : List Str := ["signs", "deep", "test", "word"]
theorem s_read_least : FnScope N_read_least ["signs", "deep"] (defScope t_read_least) := fnScope_by (by decide +kernel)
theorem vread_least_word : Nm N_read_least (defScope t_read_least) "word" 3 := nm_by (by decide +kernel)
theorem vread_least_signs : Nm N_read_least (defScope t_read_least) "signs" 0 := nm_by (by decide +kernel)
theorem vread_least_test : Nm N_read_least (defScope t_read_least) "test" 2 := nm_by (by decide +kernel)
theorem vread_least_deep : Nm N_read_least (defScope t_read_least) "deep" 1 := nm_by (by decide +kernel)
theorem lread_least_word : NmL N_read_least (defScope t_read_least) "word" 3 := nml_by (by decide +kernel)
theorem lread_least_test : NmL N_read_least (defScope t_read_least) "test" 2 := nml_by (by decide +kernel)
theorem w_read_least {T : Tab} (X : Tx T) {k : Nat} {c : Nat → Fn} (h : ∀ g n, ar g = some n → FnA T k (T.adr g) n (c g)) : SB T N_read_least (defScope t_read_least) k true (defBody t_read_least) (m_read_least c) :=
  sb_cons (ss_if (st_w (sw_and (st_cmp og_gt (se_v vread_least_deep) (se_glob (by decide +kernel) X.c_MOST_DEEP nd_MOST_DEEP)) (sw_and1 (st_w (sw_or (st_tru (se_meth 41 6 X.a6 X.cl_Signs X.me_Signs_sees (h 33 2 rfl) (se_v vread_least_signs) (sa_cons (se_str xz_bang oz_bang) (sa_nil)))) (sw_or1 (st_tru (se_meth 41 6 X.a6 X.cl_Signs X.me_Signs_sees (h 33 2 rfl) (se_v vread_least_signs) (sa_cons (se_str xz_lp oz_lp) (sa_nil)))))))))) (sb_one (ss_raiseK X.er_BadText (by decide +kernel) X.g_BadText nd_BadText (sa_cons (se_meth0 41 1 X.a1 X.cl_Signs X.me_Signs_place (h 32 1 rfl) (se_v vread_least_signs)) (sa_nil)))) (sb_nil))
    (sb_cons (ss_if (st_tru (se_meth 41 3 X.a3 X.cl_Signs X.me_Signs_took (h 36 2 rfl) (se_v vread_least_signs) (sa_cons (se_str xz_bang oz_bang) (sa_nil)))) (sb_one (ss_ret (se_tup (sa_cons (se_str xz_not oz_not) (sa_cons (se_call (h 13 2 rfl) (by decide +kernel) X.g_read_least (sa_cons (se_v vread_least_signs) (sa_cons (se_op og_add (se_v vread_least_deep) (se_int)) (sa_nil))) nd_read_least) (sa_nil)))))) (sb_nil))
    (sb_cons (ss_if (st_tru (se_meth 41 3 X.a3 X.cl_Signs X.me_Signs_took (h 36 2 rfl) (se_v vread_least_signs) (sa_cons (se_str xz_lp oz_lp) (sa_nil)))) (sb_cons (ss_v lread_least_test (se_call (h 11 2 rfl) (by decide +kernel) X.g_read_or (sa_cons (se_v vread_least_signs) (sa_cons (se_op og_add (se_v vread_least_deep) (se_int)) (sa_nil))) nd_read_or))
    (sb_cons (ss_expr (se_meth 41 4 X.a4 X.cl_Signs X.me_Signs_take (h 35 2 rfl) (se_v vread_least_signs) (sa_cons (se_str xz_rp oz_rp) (sa_nil))))
    (sb_one (ss_ret (se_v vread_least_test))))) (sb_nil))
    (sb_cons (ss_v lread_least_word (se_meth0 41 5 X.a5 X.cl_Signs X.me_Signs_word (h 34 1 rfl) (se_v vread_least_signs)))
    (sb_cons (ss_if (st_cmp og_in (se_v vread_least_word) (se_tup (sa_cons (se_str xz_yes oz_yes) (sa_cons (se_str xz_no oz_no) (sa_nil))))) (sb_cons (ss_expr (se_meth 41 4 X.a4 X.cl_Signs X.me_Signs_take (h 35 2 rfl) (se_v vread_least_signs) (sa_cons (se_v vread_least_word) (sa_nil))))
    (sb_one (ss_ret (se_tup (sa_cons (se_v vread_least_word) (sa_nil)))))) (sb_nil))
    (sb_cons (ss_if (st_not (st_tru (se_call (h 1 1 rfl) (by decide +kernel) X.g_is_name (sa_cons (se_v vread_least_word) (sa_nil)) nd_is_name))) (sb_one (ss_raiseK X.er_BadText (by decide +kernel) X.g_BadText nd_BadText (sa_cons (se_meth0 41 1 X.a1 X.cl_Signs X.me_Signs_place (h 32 1 rfl) (se_v vread_least_signs)) (sa_nil)))) (sb_nil))
    (sb_cons (ss_expr (se_meth 41 4 X.a4 X.cl_Signs X.me_Signs_take (h 35 2 rfl) (se_v vread_least_signs) (sa_cons (se_v vread_least_word) (sa_nil))))
    (sb_one (ss_ret (se_tup (sa_cons (se_str xz_is oz_is) (sa_cons (se_v vread_least_word) (sa_nil))))))))))))
abbrev N_code_fault : List Str := ["thing", "at", "line"]
theorem s_code_fault : FnScope N_code_fault ["thing"] (defScope t_code_fault) := fnScope_by (by decide +kernel)
theorem vcode_fault_thing : Nm N_code_fault (defScope t_code_fault) "thing" 0 := nm_by (by decide +kernel)
theorem vcode_fault_line : Nm N_code_fault (defScope t_code_fault) "line" 2 := nm_by (by decide +kernel)
theorem vcode_fault_at : Nm N_code_fault (defScope t_code_fault) "at" 1 := nm_by (by decide +kernel)
theorem lcode_fault_line : NmL N_code_fault (defScope t_code_fault) "line" 2 := nml_by (by decide +kernel)
theorem lcode_fault_at : NmL N_code_fault (defScope t_code_fault) "at" 1 := nml_by (by decide +kernel)
theorem w_code_fault {T : Tab} (X : Tx T) {k : Nat} {c : Nat → Fn} (h : ∀ g n, ar g = some n → FnA T k (T.adr g) n (c g)) : SB T N_code_fault (defScope t_code_fault) k true (defBody t_code_fault) (m_code_fault c) :=
  sb_cons (ss_if (st_w (sw_or (st_not (st_tru (se_isi .tuple (by decide +kernel) X.n_isinstance (se_v vcode_fault_thing) (by decide +kernel) X.n_tuple bt_tuple))) (sw_or1 (st_cmp og_gt (se_bi cg_len (by decide +kernel) X.n_len bt_len (sa_cons (se_v vcode_fault_thing) (sa_nil))) (se_glob (by decide +kernel) X.c_MOST_LINES nd_MOST_LINES))))) (sb_one (ss_ret (se_str xz_shape oz_shape))) (sb_nil))
    (sb_cons (ss_for (si_enumT (by decide +kernel) X.n_enumerate (se_v vcode_fault_thing)) (sg_tup (sgs_cons (sg_v lcode_fault_at) (sgs_cons (sg_v lcode_fault_line) (sgs_nil)))) (okg_tup (okgs_cons (okg_name _) (okgs_cons (okg_name _) okgs_nil))) (sb_one (ss_if (st_not (st_tru (se_call (h 15 2 rfl) (by decide +kernel) X.g_is_line (sa_cons (se_v vcode_fault_line) (sa_cons (se_bi cg_len (by decide +kernel) X.n_len bt_len (sa_cons (se_v vcode_fault_thing) (sa_nil))) (sa_nil))) nd_is_line))) (sb_one (ss_ret (se_v vcode_fault_at))) (sb_nil))))
    (sb_one (ss_ret (se_non))))
abbrev N_is_line : List Str := ["thing", "many"]
theorem s_is_line : FnScope N_is_line ["thing", "many"] (defScope t_is_line) := fnScope_by (by decide +kernel)
theorem vis_line_thing : Nm N_is_line (defScope t_is_line) "thing" 0 := nm_by (by decide +kernel)
theorem vis_line_many : Nm N_is_line (defScope t_is_line) "many" 1 := nm_by (by decide +kernel)
theorem w_is_line {T : Tab} (X : Tx T) {k : Nat} {c : Nat → Fn} (h : ∀ g n, ar g = some n → FnA T k (T.adr g) n (c g)) : SB T N_is_line (defScope t_is_line) k true (defBody t_is_line) (m_is_line c) :=
  sb_cons (ss_if (st_w (sw_or (st_not (st_tru (se_isi .tuple (by decide +kernel) X.n_isinstance (se_v vis_line_thing) (by decide +kernel) X.n_tuple bt_tuple))) (sw_or (st_not (st_tru (se_v vis_line_thing))) (sw_or1 (st_not (st_tru (se_isi .str (by decide +kernel) X.n_isinstance (se_ix og_ix (se_v vis_line_thing) (se_int)) (by decide +kernel) X.n_str bt_str))))))) (sb_one (ss_ret (se_bl))) (sb_nil))
    (sb_cons (ss_if (st_cmp og_eq (se_ix og_ix (se_v vis_line_thing) (se_int)) (se_str xz_do oz_do)) (sb_one (ss_ret (se_and (se_cmp og_eq (se_bi cg_len (by decide +kernel) X.n_len bt_len (sa_cons (se_v vis_line_thing) (sa_nil))) (se_int)) (se_one (se_call (h 1 1 rfl) (by decide +kernel) X.g_is_name (sa_cons (se_ix og_ix (se_v vis_line_thing) (se_int)) (sa_nil)) nd_is_name))))) (sb_nil))
    (sb_cons (ss_if (st_cmp og_eq (se_ix og_ix (se_v vis_line_thing) (se_int)) (se_str xz_stop oz_stop)) (sb_one (ss_ret (se_cmp og_eq (se_bi cg_len (by decide +kernel) X.n_len bt_len (sa_cons (se_v vis_line_thing) (sa_nil))) (se_int)))) (sb_nil))
    (sb_cons (ss_if (st_w (sw_or (st_cmp og_nin (se_ix og_ix (se_v vis_line_thing) (se_int)) (se_tup (sa_cons (se_str xz_go oz_go) (sa_cons (se_str xz_unless oz_unless) (sa_nil))))) (sw_or1 (st_cmp og_ne (se_bi cg_len (by decide +kernel) X.n_len bt_len (sa_cons (se_v vis_line_thing) (sa_nil))) (se_ifx (st_cmp og_eq (se_ix og_ix (se_v vis_line_thing) (se_int)) (se_str xz_go oz_go)) (se_int) (se_int)))))) (sb_one (ss_ret (se_bl))) (sb_nil))
    (sb_cons (ss_if (st_w (sw_and (st_cmp og_eq (se_ix og_ix (se_v vis_line_thing) (se_int)) (se_str xz_unless oz_unless)) (sw_and1 (st_not (st_tru (se_call (h 4 1 rfl) (by decide +kernel) X.g_is_test (sa_cons (se_ix og_ix (se_v vis_line_thing) (se_int)) (sa_nil)) nd_is_test)))))) (sb_one (ss_ret (se_bl))) (sb_nil))
    (sb_one (ss_ret (se_and (se_call (h 0 1 rfl) (by decide +kernel) X.g_is_integer (sa_cons (se_ix og_ix (se_v vis_line_thing) (se_neg (se_int))) (sa_nil)) nd_is_integer) (se_one (se_chain og_le og_le (se_int) (se_ix og_ix (se_v vis_line_thing) (se_neg (se_int))) (se_v vis_line_many))))))))))
abbrev N_check_code : List Str := ["code"]
theorem s_check_code : FnScope N_check_code ["code"] (defScope t_check_code) := fnScope_by (by decide +kernel)
theorem vcheck_code_code : Nm N_check_code (defScope t_check_code) "code" 0 := nm_by (by decide +kernel)
theorem w_check_code {T : Tab} (X : Tx T) {k : Nat} {c : Nat → Fn} (h : ∀ g n, ar g = some n → FnA T k (T.adr g) n (c g)) : SB T N_check_code (defScope t_check_code) k true (defBody t_check_code) (m_check_code c) :=
  sb_one (ss_if (st_cmp og_isn (se_call (h 14 1 rfl) (by decide +kernel) X.g_code_fault (sa_cons (se_v vcheck_code_code) (sa_nil)) nd_code_fault) (se_non)) (sb_one (ss_raiseK X.er_BadThing (by decide +kernel) X.g_BadThing nd_BadThing (sa_cons (se_str xz_code oz_code) (sa_nil)))) (sb_nil))
abbrev N_format_code : List Str := ["code", "lines", "line", "one"]
theorem s_format_code : FnScope N_format_code ["code"] (defScope t_format_code) := fnScope_by (by decide +kernel)
theorem vformat_code_lines : Nm N_format_code (defScope t_format_code) "lines" 1 := nm_by (by decide +kernel)
theorem vformat_code_code : Nm N_format_code (defScope t_format_code) "code" 0 := nm_by (by decide +kernel)
theorem vformat_code_line : Nm N_format_code (defScope t_format_code) "line" 2 := nm_by (by decide +kernel)
theorem lformat_code_line : NmL N_format_code (defScope t_format_code) "line" 2 := nml_by (by decide +kernel)
theorem lformat_code_lines : NmL N_format_code (defScope t_format_code) "lines" 1 := nml_by (by decide +kernel)
theorem w_format_code {T : Tab} (X : Tx T) {k : Nat} {c : Nat → Fn} (h : ∀ g n, ar g = some n → FnA T k (T.adr g) n (c g)) : SB T N_format_code (defScope t_format_code) k true (defBody t_format_code) (m_format_code c) :=
  sb_cons (ss_expr (se_call (h 16 1 rfl) (by decide +kernel) X.g_check_code (sa_cons (se_v vformat_code_code) (sa_nil)) nd_check_code))
    (sb_cons (ss_v lformat_code_lines (se_lst (sa_nil)))
    (sb_cons (ss_for (si_tup (se_v vformat_code_code)) (sg_v lformat_code_line) (okg_name _) (sb_one (ss_if (st_cmp og_eq (se_ix og_ix (se_v vformat_code_line) (se_int)) (se_str xz_unless oz_unless)) (sb_one (ss_expr (se_m F.plainAttrs_list F.slot_list_append F.type_list_append mg_append (se_v vformat_code_lines) (sa_cons (se_op og_add (se_op og_add (se_op og_add (se_str xz_unless_ oz_unless_) (se_call (h 7 1 rfl) (by decide +kernel) X.g_format_test (sa_cons (se_ix og_ix (se_v vformat_code_line) (se_int)) (sa_nil)) nd_format_test)) (se_str xz__go_ oz__go_)) (se_ty cg_str (by decide +kernel) X.n_str bt_str (sa_cons (se_ix og_ix (se_v vformat_code_line) (se_int)) (sa_nil)))) (sa_nil))))) (sb_one (ss_expr (se_m F.plainAttrs_list F.slot_list_append F.type_list_append mg_append (se_v vformat_code_lines) (sa_cons (se_m F.plainAttrs_str F.slot_str_join F.type_str_join mg_join (se_str xz_sp oz_sp) (sa_cons (se_comp (own := [("one", 3)]) (sh := .one 3) (si_tup (se_v vformat_code_line)) (blkOk_by (by decide +kernel)) (by decide) (tg_v (i := 3) rfl (by decide +kernel)) (sts_nil) (se_ty cg_str (by decide +kernel) X.n_str bt_str (sa_cons (se_v (i := 3) (nm_by (by decide +kernel))) (sa_nil)))) (sa_nil))) (sa_nil))))))))
    (sb_one (ss_ret (se_m F.plainAttrs_str F.slot_str_join F.type_str_join mg_join (se_str xz_empty oz_empty) (sa_cons (se_comp (own := [("line", 2)]) (sh := .one 2) (si_list (se_v vformat_code_lines)) (blkOk_by (by decide +kernel)) (by decide) (tg_v (i := 2) rfl (by decide +kernel)) (sts_nil) (se_op og_add (se_v (i := 2) (nm_by (by decide +kernel))) (se_str xz_nl oz_nl))) (sa_nil)))))))
abbrev N_read_code : List Str := ["text", "lines", "found", "at", "line", "told"]
theorem s_read_code : FnScope N_read_code ["text"] (defScope t_read_code) := fnScope_by (by decide +kernel)
theorem vread_code_found : Nm N_read_code (defScope t_read_code) "found" 2 := nm_by (by decide +kernel)
theorem vread_code_lines : Nm N_read_code (defScope t_read_code) "lines" 1 := nm_by (by decide +kernel)
theorem vread_code_told : Nm N_read_code (defScope t_read_code) "told" 5 := nm_by (by decide +kernel)
theorem vread_code_at : Nm N_read_code (defScope t_read_code) "at" 3 := nm_by (by decide +kernel)
theorem vread_code_line : Nm N_read_code (defScope t_read_code) "line" 4 := nm_by (by decide +kernel)
theorem vread_code_text : Nm N_read_code (defScope t_read_code) "text" 0 := nm_by (by decide +kernel)
theorem lread_code_line : NmL N_read_code (defScope t_read_code) "line" 4 := nml_by (by decide +kernel)
theorem lread_code_at : NmL N_read_code (defScope t_read_code) "at" 3 := nml_by (by decide +kernel)
theorem lread_code_told : NmL N_read_code (defScope t_read_code) "told" 5 := nml_by (by decide +kernel)
theorem lread_code_lines : NmL N_read_code (defScope t_read_code) "lines" 1 := nml_by (by decide +kernel)
theorem lread_code_found : NmL N_read_code (defScope t_read_code) "found" 2 := nml_by (by decide +kernel)
theorem w_read_code {T : Tab} (X : Tx T) {k : Nat} {c : Nat → Fn} (h : ∀ g n, ar g = some n → FnA T k (T.adr g) n (c g)) : SB T N_read_code (defScope t_read_code) k true (defBody t_read_code) (m_read_code c) :=
  sb_cons (ss_if (st_not (st_tru (se_isi .str (by decide +kernel) X.n_isinstance (se_v vread_code_text) (by decide +kernel) X.n_str bt_str))) (sb_one (ss_raiseK X.er_BadThing (by decide +kernel) X.g_BadThing nd_BadThing (sa_cons (se_str xz_text oz_text) (sa_nil)))) (sb_nil))
    (sb_cons (ss_parv lread_code_lines lread_code_found (by decide) rfl (by decide +kernel) (by decide +kernel) (by decide +kernel) (se_m F.plainAttrs_str F.slot_str_split F.type_str_split mg_split (se_v vread_code_text) (sa_cons (se_str xz_nl oz_nl) (sa_nil))) (se_lst (sa_nil)))
    (sb_cons (ss_for (si_enum (by decide +kernel) X.n_enumerate (se_slice (se_v vread_code_lines) (sp_no) (sp_some (se_neg (se_int))))) (sg_tup (sgs_cons (sg_v lread_code_at) (sgs_cons (sg_v lread_code_line) (sgs_nil)))) (okg_tup (okgs_cons (okg_name _) (okgs_cons (okg_name _) okgs_nil))) (sb_cons (ss_v lread_code_told (se_call (h 19 1 rfl) (by decide +kernel) X.g_line_of (sa_cons (se_v vread_code_line) (sa_nil)) nd_line_of))
    (sb_cons (ss_if (st_cmp og_is (se_v vread_code_told) (se_non)) (sb_one (ss_raiseK X.er_BadText (by decide +kernel) X.g_BadText nd_BadText (sa_cons (se_v vread_code_at) (sa_nil)))) (sb_nil))
    (sb_one (ss_expr (se_m F.plainAttrs_list F.slot_list_append F.type_list_append mg_append (se_v vread_code_found) (sa_cons (se_v vread_code_told) (sa_nil))))))))
    (sb_cons (ss_if (st_cmp og_ne (se_ix og_ix (se_v vread_code_lines) (se_neg (se_int))) (se_str xz_empty oz_empty)) (sb_one (ss_raiseK X.er_BadText (by decide +kernel) X.g_BadText nd_BadText (sa_cons (se_op og_sub (se_bi cg_len (by decide +kernel) X.n_len bt_len (sa_cons (se_v vread_code_lines) (sa_nil))) (se_int)) (sa_nil)))) (sb_nil))
    (sb_cons (ss_expr (se_call (h 16 1 rfl) (by decide +kernel) X.g_check_code (sa_cons (se_ty cg_tuple (by decide +kernel) X.n_tuple bt_tuple (sa_cons (se_v vread_code_found) (sa_nil))) (sa_nil)) nd_check_code))
    (sb_one (ss_ret (se_ty cg_tuple (by decide +kernel) X.n_tuple bt_tuple (sa_cons (se_v vread_code_found) (sa_nil)))))))))
abbrev N_line_of : List Str := ["text", "words", "told", "test"]
theorem s_line_of : FnScope N_line_of ["text"] (defScope t_line_of) := fnScope_by (by decide +kernel)
theorem vline_of_words : Nm N_line_of (defScope t_line_of) "words" 1 := nm_by (by decide +kernel)
theorem vline_of_test : Nm N_line_of (defScope t_line_of) "test" 3 := nm_by (by decide +kernel)
theorem vline_of_told : Nm N_line_of (defScope t_line_of) "told" 2 := nm_by (by decide +kernel)
theorem vline_of_text : Nm N_line_of (defScope t_line_of) "text" 0 := nm_by (by decide +kernel)
theorem lline_of_test : NmL N_line_of (defScope t_line_of) "test" 3 := nml_by (by decide +kernel)
theorem lline_of_told : NmL N_line_of (defScope t_line_of) "told" 2 := nml_by (by decide +kernel)
theorem lline_of_words : NmL N_line_of (defScope t_line_of) "words" 1 := nml_by (by decide +kernel)
theorem w_line_of {T : Tab} (X : Tx T) {k : Nat} {c : Nat → Fn} (h : ∀ g n, ar g = some n → FnA T k (T.adr g) n (c g)) : SB T N_line_of (defScope t_line_of) k true (defBody t_line_of) (m_line_of c) :=
  sb_cons (ss_v lline_of_words (se_m F.plainAttrs_str F.slot_str_split F.type_str_split mg_split (se_v vline_of_text) (sa_cons (se_str xz_sp oz_sp) (sa_nil))))
    (sb_cons (ss_if (st_cmp og_eq (se_v vline_of_text) (se_str xz_stop oz_stop)) (sb_one (ss_ret (se_tup (sa_cons (se_str xz_stop oz_stop) (sa_nil))))) (sb_nil))
    (sb_cons (ss_if (st_w (sw_and (st_cmp og_eq (se_ix og_ix (se_v vline_of_words) (se_int)) (se_str xz_do oz_do)) (sw_and (st_cmp og_eq (se_bi cg_len (by decide +kernel) X.n_len bt_len (sa_cons (se_v vline_of_words) (sa_nil))) (se_int)) (sw_and1 (st_tru (se_call (h 1 1 rfl) (by decide +kernel) X.g_is_name (sa_cons (se_ix og_ix (se_v vline_of_words) (se_int)) (sa_nil)) nd_is_name)))))) (sb_one (ss_ret (se_tup (sa_cons (se_str xz_do oz_do) (sa_cons (se_ix og_ix (se_v vline_of_words) (se_int)) (sa_nil)))))) (sb_nil))
    (sb_cons (ss_if (st_w (sw_and (st_cmp og_eq (se_ix og_ix (se_v vline_of_words) (se_int)) (se_str xz_go oz_go)) (sw_and (st_cmp og_eq (se_bi cg_len (by decide +kernel) X.n_len bt_len (sa_cons (se_v vline_of_words) (sa_nil))) (se_int)) (sw_and1 (st_tru (se_call (h 2 1 rfl) (by decide +kernel) X.g_is_figures (sa_cons (se_ix og_ix (se_v vline_of_words) (se_int)) (sa_nil)) nd_is_figures)))))) (sb_one (ss_ret (se_tup (sa_cons (se_str xz_go oz_go) (sa_cons (se_ty cg_int (by decide +kernel) X.n_int bt_int (sa_cons (se_ix og_ix (se_v vline_of_words) (se_int)) (sa_nil))) (sa_nil)))))) (sb_nil))
    (sb_cons (ss_if (st_w (sw_and (st_cmp og_eq (se_ix og_ix (se_v vline_of_words) (se_int)) (se_str xz_unless oz_unless)) (sw_and (st_cmp og_gt (se_bi cg_len (by decide +kernel) X.n_len bt_len (sa_cons (se_v vline_of_words) (sa_nil))) (se_int)) (sw_and (st_cmp og_eq (se_ix og_ix (se_v vline_of_words) (se_neg (se_int))) (se_str xz_go oz_go)) (sw_and1 (st_tru (se_call (h 2 1 rfl) (by decide +kernel) X.g_is_figures (sa_cons (se_ix og_ix (se_v vline_of_words) (se_neg (se_int))) (sa_nil)) nd_is_figures))))))) (sb_cons (ss_v lline_of_told (se_m F.plainAttrs_str F.slot_str_join F.type_str_join mg_join (se_str xz_sp oz_sp) (sa_cons (se_slice (se_v vline_of_words) (sp_some (se_int)) (sp_some (se_neg (se_int)))) (sa_nil))))
    (sb_cons (ss_try (sb_one (ss_v lline_of_test (se_call (h 10 1 rfl) (by decide +kernel) X.g_read_test (sa_cons (se_v vline_of_told) (sa_nil)) nd_read_test))) (.bare (cx := 40) (by decide +kernel) nd_BadText X.g_BadText (mt_ok (l := [(39, false), (40, true)]) ⟨X.em_BadThing_BadText, X.em_BadText_BadText, trivial⟩) (sx_of (se_non)) (.nil)))
    (sb_one (ss_ret (se_ifx (st_cmp og_eq (se_call (h 7 1 rfl) (by decide +kernel) X.g_format_test (sa_cons (se_v vline_of_test) (sa_nil)) nd_format_test) (se_v vline_of_told)) (se_tup (sa_cons (se_str xz_unless oz_unless) (sa_cons (se_v vline_of_test) (sa_cons (se_ty cg_int (by decide +kernel) X.n_int bt_int (sa_cons (se_ix og_ix (se_v vline_of_words) (se_neg (se_int))) (sa_nil))) (sa_nil))))) (se_non)))))) (sb_nil))
    (sb_one (ss_ret (se_non)))))))
abbrev N__law_digits : List Str := ["script", "first", "last", "digits", "k", "cell", "turn", "seed"]
theorem s__law_digits : FnScope N__law_digits ["script", "first", "last"] (defScope t__law_digits) := fnScope_by (by decide +kernel)
theorem v_law_digits_digits : Nm N__law_digits (defScope t__law_digits) "digits" 3 := nm_by (by decide +kernel)
theorem v_law_digits_first : Nm N__law_digits (defScope t__law_digits) "first" 1 := nm_by (by decide +kernel)
theorem v_law_digits_last : Nm N__law_digits (defScope t__law_digits) "last" 2 := nm_by (by decide +kernel)
theorem v_law_digits_cell : Nm N__law_digits (defScope t__law_digits) "cell" 5 := nm_by (by decide +kernel)
theorem v_law_digits_seed : Nm N__law_digits (defScope t__law_digits) "seed" 7 := nm_by (by decide +kernel)
theorem v_law_digits_turn : Nm N__law_digits (defScope t__law_digits) "turn" 6 := nm_by (by decide +kernel)
theorem v_law_digits_k : Nm N__law_digits (defScope t__law_digits) "k" 4 := nm_by (by decide +kernel)
theorem v_law_digits_script : Nm N__law_digits (defScope t__law_digits) "script" 0 := nm_by (by decide +kernel)
theorem l_law_digits_k : NmL N__law_digits (defScope t__law_digits) "k" 4 := nml_by (by decide +kernel)
theorem l_law_digits_turn : NmL N__law_digits (defScope t__law_digits) "turn" 6 := nml_by (by decide +kernel)
theorem l_law_digits_cell : NmL N__law_digits (defScope t__law_digits) "cell" 5 := nml_by (by decide +kernel)
theorem l_law_digits_seed : NmL N__law_digits (defScope t__law_digits) "seed" 7 := nml_by (by decide +kernel)
theorem l_law_digits_digits : NmL N__law_digits (defScope t__law_digits) "digits" 3 := nml_by (by decide +kernel)
theorem w__law_digits {T : Tab} (X : Tx T) {k : Nat} {c : Nat → Fn} (h : ∀ g n, ar g = some n → FnA T k (T.adr g) n (c g)) : SB T N__law_digits (defScope t__law_digits) k true (defBody t__law_digits) (m__law_digits c) :=
  sb_cons (ss_v l_law_digits_digits (se_lst (sa_nil)))
    (sb_cons (ss_for (si_range2 (by decide +kernel) X.n_range (se_v v_law_digits_first) (se_v v_law_digits_last)) (sg_v l_law_digits_k) (okg_name _) (sb_cons (ss_v l_law_digits_cell (se_ifx (st_cmp og_lt (se_v v_law_digits_k) (se_bi cg_len (by decide +kernel) X.n_len bt_len (sa_cons (se_v v_law_digits_script) (sa_nil)))) (se_ix og_ix (se_v v_law_digits_script) (se_v v_law_digits_k)) (se_int)))
    (sb_cons (ss_if (st_cmp og_lt (se_v v_law_digits_cell) (se_int)) (sb_one (ss_v l_law_digits_cell (se_op og_sub (se_int) (se_op og_mul (se_int) (se_v v_law_digits_cell))))) (sb_nil))
    (sb_one (ss_if (st_cmp og_ge (se_v v_law_digits_cell) (se_int)) (sb_one (ss_for (si_range1 (by decide +kernel) X.n_range (se_int)) (sg_v l_law_digits_turn) (okg_name _) (sb_one (ss_if (st_cmp og_gt (se_v v_law_digits_cell) (se_int)) (sb_cons (ss_expr (se_m F.plainAttrs_list F.slot_list_append F.type_list_append mg_append (se_v v_law_digits_digits) (sa_cons (se_op og_mod (se_ty cg_int (by decide +kernel) X.n_int bt_int (sa_cons (se_v v_law_digits_cell) (sa_nil))) (se_int)) (sa_nil))))
    (sb_one (ss_v l_law_digits_cell (se_op og_fdiv (se_v v_law_digits_cell) (se_int))))) (sb_nil))))) (sb_cons (ss_v l_law_digits_seed (se_op og_mod (se_ty cg_int (by decide +kernel) X.n_int bt_int (sa_cons (se_op og_add (se_op og_add (se_op og_mul (se_v v_law_digits_cell) (se_int)) (se_op og_mul (se_v v_law_digits_k) (se_int))) (se_int)) (sa_nil))) (se_int)))
    (sb_one (ss_for (si_range1 (by decide +kernel) X.n_range (se_int)) (sg_v l_law_digits_turn) (okg_name _) (sb_cons (ss_v l_law_digits_seed (se_op og_mod (se_ty cg_int (by decide +kernel) X.n_int bt_int (sa_cons (se_op og_add (se_op og_add (se_op og_mul (se_v v_law_digits_seed) (se_int)) (se_op og_mul (se_int) (se_v v_law_digits_turn))) (se_int)) (sa_nil))) (se_int)))
    (sb_one (ss_expr (se_m F.plainAttrs_list F.slot_list_append F.type_list_append mg_append (se_v v_law_digits_digits) (sa_cons (se_op og_mod (se_ty cg_int (by decide +kernel) X.n_int bt_int (sa_cons (se_op og_fdiv (se_v v_law_digits_seed) (se_int)) (sa_nil))) (se_int)) (sa_nil))))))))))))))
    (sb_one (ss_ret (se_v v_law_digits_digits))))
abbrev N__law_draw : List Str := ["box", "many", "at"]
theorem s__law_draw : FnScope N__law_draw ["box", "many"] (defScope t__law_draw) := fnScope_by (by decide +kernel)
theorem v_law_draw_at : Nm N__law_draw (defScope t__law_draw) "at" 2 := nm_by (by decide +kernel)
theorem v_law_draw_many : Nm N__law_draw (defScope t__law_draw) "many" 1 := nm_by (by decide +kernel)
theorem v_law_draw_box : Nm N__law_draw (defScope t__law_draw) "box" 0 := nm_by (by decide +kernel)
theorem l_law_draw_at : NmL N__law_draw (defScope t__law_draw) "at" 2 := nml_by (by decide +kernel)
theorem w__law_draw {T : Tab} (X : Tx T) {k : Nat} {c : Nat → Fn} (h : ∀ g n, ar g = some n → FnA T k (T.adr g) n (c g)) : SB T N__law_draw (defScope t__law_draw) k true (defBody t__law_draw) (m__law_draw c) :=
  sb_cons (ss_v l_law_draw_at (se_ix og_ix (se_v v_law_draw_box) (se_int)))
    (sb_cons (ss_asg (se_op og_add (se_v v_law_draw_at) (se_int)) (sg_ix (se_v v_law_draw_box) (se_int)) okg_ix)
    (sb_cons (ss_if (st_cmp og_lt (se_v v_law_draw_at) (se_bi cg_len (by decide +kernel) X.n_len bt_len (sa_cons (se_ix og_ix (se_v v_law_draw_box) (se_int)) (sa_nil)))) (sb_one (ss_ret (se_op og_mod (se_ty cg_int (by decide +kernel) X.n_int bt_int (sa_cons (se_ix og_ix (se_ix og_ix (se_v v_law_draw_box) (se_int)) (se_v v_law_draw_at)) (sa_nil))) (se_v v_law_draw_many)))) (sb_nil))
    (sb_one (ss_ret (se_op og_mod (se_ty cg_int (by decide +kernel) X.n_int bt_int (sa_cons (se_op og_add (se_op og_add (se_op og_add (se_op og_mul (se_op og_mul (se_v v_law_draw_at) (se_v v_law_draw_at)) (se_int)) (se_op og_mul (se_v v_law_draw_at) (se_int))) (se_op og_fdiv (se_v v_law_draw_at) (se_int))) (se_int)) (sa_nil))) (se_v v_law_draw_many))))))
abbrev N__law_pick : List Str := ["box", "things"]
theorem s__law_pick : FnScope N__law_pick ["box", "things"] (defScope t__law_pick) := fnScope_by (by decide +kernel)
theorem v_law_pick_things : Nm N__law_pick (defScope t__law_pick) "things" 1 := nm_by (by decide +kernel)
theorem v_law_pick_box : Nm N__law_pick (defScope t__law_pick) "box" 0 := nm_by (by decide +kernel)
theorem w__law_pick {T : Tab} (X : Tx T) {k : Nat} {c : Nat → Fn} (h : ∀ g n, ar g = some n → FnA T k (T.adr g) n (c g)) : SB T N__law_pick (defScope t__law_pick) k true (defBody t__law_pick) (m__law_pick c) :=
  sb_one (ss_ret (se_ix og_ix (se_v v_law_pick_things) (se_call (h 21 2 rfl) (by decide +kernel) X.g__law_draw (sa_cons (se_v v_law_pick_box) (sa_cons (se_bi cg_len (by decide +kernel) X.n_len bt_len (sa_cons (se_v v_law_pick_things) (sa_nil))) (sa_nil))) nd__law_draw)))
abbrev N__law_same : List Str := ["a", "b"]
theorem s__law_same : FnScope N__law_same ["a", "b"] (defScope t__law_same) := fnScope_by (by decide +kernel)
theorem v_law_same_a : Nm N__law_same (defScope t__law_same) "a" 0 := nm_by (by decide +kernel)
theorem v_law_same_b : Nm N__law_same (defScope t__law_same) "b" 1 := nm_by (by decide +kernel)
theorem w__law_same {T : Tab} (X : Tx T) {k : Nat} {c : Nat → Fn} (h : ∀ g n, ar g = some n → FnA T k (T.adr g) n (c g)) : SB T N__law_same (defScope t__law_same) k true (defBody t__law_same) (m__law_same c) :=
  sb_one (ss_ret (se_cmp og_eq (se_bi cg_repr (by decide +kernel) X.n_repr bt_repr (sa_cons (se_v v_law_same_a) (sa_nil))) (se_bi cg_repr (by decide +kernel) X.n_repr bt_repr (sa_cons (se_v v_law_same_b) (sa_nil)))))
abbrev N__law_test : List Str := ["box", "names", "down", "kind"]
theorem s__law_test : FnScope N__law_test ["box", "names", "down"] (defScope t__law_test) := fnScope_by (by decide +kernel)
theorem v_law_test_box : Nm N__law_test (defScope t__law_test) "box" 0 := nm_by (by decide +kernel)
theorem v_law_test_names : Nm N__law_test (defScope t__law_test) "names" 1 := nm_by (by decide +kernel)
theorem v_law_test_down : Nm N__law_test (defScope t__law_test) "down" 2 := nm_by (by decide +kernel)
theorem v_law_test_kind : Nm N__law_test (defScope t__law_test) "kind" 3 := nm_by (by decide +kernel)
theorem l_law_test_kind : NmL N__law_test (defScope t__law_test) "kind" 3 := nml_by (by decide +kernel)
theorem w__law_test {T : Tab} (X : Tx T) {k : Nat} {c : Nat → Fn} (h : ∀ g n, ar g = some n → FnA T k (T.adr g) n (c g)) : SB T N__law_test (defScope t__law_test) k true (defBody t__law_test) (m__law_test c) :=
  sb_cons (ss_v l_law_test_kind (se_ifx (st_cmp og_gt (se_v v_law_test_down) (se_int)) (se_call (h 21 2 rfl) (by decide +kernel) X.g__law_draw (sa_cons (se_v v_law_test_box) (sa_cons (se_int) (sa_nil))) nd__law_draw) (se_call (h 21 2 rfl) (by decide +kernel) X.g__law_draw (sa_cons (se_v v_law_test_box) (sa_cons (se_int) (sa_nil))) nd__law_draw)))
    (sb_cons (ss_if (st_cmp og_lt (se_v v_law_test_kind) (se_int)) (sb_one (ss_ret (se_ifx (st_cmp og_ne (se_v v_law_test_names) (se_tup (sa_nil))) (se_tup (sa_cons (se_str xz_is oz_is) (sa_cons (se_call (h 22 2 rfl) (by decide +kernel) X.g__law_pick (sa_cons (se_v v_law_test_box) (sa_cons (se_ty cg_list (by decide +kernel) X.n_list bt_list (sa_cons (se_v v_law_test_names) (sa_nil))) (sa_nil))) nd__law_pick) (sa_nil)))) (se_call (h 22 2 rfl) (by decide +kernel) X.g__law_pick (sa_cons (se_v v_law_test_box) (sa_cons (se_lst (sa_cons (se_tup (sa_cons (se_str xz_yes oz_yes) (sa_nil))) (sa_cons (se_tup (sa_cons (se_str xz_no oz_no) (sa_nil))) (sa_nil)))) (sa_nil))) nd__law_pick)))) (sb_nil))
    (sb_cons (ss_if (st_cmp og_eq (se_v v_law_test_kind) (se_int)) (sb_one (ss_ret (se_call (h 22 2 rfl) (by decide +kernel) X.g__law_pick (sa_cons (se_v v_law_test_box) (sa_cons (se_lst (sa_cons (se_tup (sa_cons (se_str xz_yes oz_yes) (sa_nil))) (sa_cons (se_tup (sa_cons (se_str xz_no oz_no) (sa_nil))) (sa_nil)))) (sa_nil))) nd__law_pick))) (sb_nil))
    (sb_cons (ss_if (st_cmp og_lt (se_v v_law_test_kind) (se_int)) (sb_one (ss_ret (se_tup (sa_cons (se_str xz_not oz_not) (sa_cons (se_call (h 24 3 rfl) (by decide +kernel) X.g__law_test (sa_cons (se_v v_law_test_box) (sa_cons (se_v v_law_test_names) (sa_cons (se_op og_sub (se_v v_law_test_down) (se_int)) (sa_nil)))) nd__law_test) (sa_nil)))))) (sb_nil))
    (sb_one (ss_ret (se_tup (sa_cons (se_call (h 22 2 rfl) (by decide +kernel) X.g__law_pick (sa_cons (se_v v_law_test_box) (sa_cons (se_lst (sa_cons (se_str xz_and oz_and) (sa_cons (se_str xz_or oz_or) (sa_nil)))) (sa_nil))) nd__law_pick) (sa_cons (se_call (h 24 3 rfl) (by decide +kernel) X.g__law_test (sa_cons (se_v v_law_test_box) (sa_cons (se_v v_law_test_names) (sa_cons (se_op og_sub (se_v v_law_test_down) (se_int)) (sa_nil)))) nd__law_test) (sa_cons (se_call (h 24 3 rfl) (by decide +kernel) X.g__law_test (sa_cons (se_v v_law_test_box) (sa_cons (se_v v_law_test_names) (sa_cons (se_op og_sub (se_v v_law_test_down) (se_int)) (sa_nil)))) nd__law_test) (sa_nil))))))))))
abbrev N__law_like : List Str := ["told", "due", "k"]
theorem s__law_like : FnScope N__law_like ["told", "due"] (defScope t__law_like) := fnScope_by (by decide +kernel)
theorem v_law_like_told : Nm N__law_like (defScope t__law_like) "told" 0 := nm_by (by decide +kernel)
theorem v_law_like_due : Nm N__law_like (defScope t__law_like) "due" 1 := nm_by (by decide +kernel)
theorem w__law_like {T : Tab} (X : Tx T) {k : Nat} {c : Nat → Fn} (h : ∀ g n, ar g = some n → FnA T k (T.adr g) n (c g)) : SB T N__law_like (defScope t__law_like) k true (defBody t__law_like) (m__law_like c) :=
  sb_cons (ss_if (st_tru (se_isi .tuple (by decide +kernel) X.n_isinstance (se_v v_law_like_due) (by decide +kernel) X.n_tuple bt_tuple)) (sb_cons (ss_if (st_w (sw_or (st_not (st_tru (se_isi .tuple (by decide +kernel) X.n_isinstance (se_v v_law_like_told) (by decide +kernel) X.n_tuple bt_tuple))) (sw_or1 (st_cmp og_ne (se_bi cg_len (by decide +kernel) X.n_len bt_len (sa_cons (se_v v_law_like_told) (sa_nil))) (se_bi cg_len (by decide +kernel) X.n_len bt_len (sa_cons (se_v v_law_like_due) (sa_nil))))))) (sb_one (ss_ret (se_bl))) (sb_nil))
    (sb_one (ss_ret (se_cmp og_eq (se_comp (own := [("k", 2)]) (sh := .one 2) (si_range1 (by decide +kernel) X.n_range (se_bi cg_len (by decide +kernel) X.n_len bt_len (sa_cons (se_v v_law_like_due) (sa_nil)))) (blkOk_by (by decide +kernel)) (by decide) (tg_v (i := 2) rfl (by decide +kernel)) (sts_one (st_not (st_tru (se_call (h 25 2 rfl) (by decide +kernel) X.g__law_like (sa_cons (se_ix og_ix (se_v (i := 0) (nm_by (by decide +kernel))) (se_v (i := 2) (nm_by (by decide +kernel)))) (sa_cons (se_ix og_ix (se_v (i := 1) (nm_by (by decide +kernel))) (se_v (i := 2) (nm_by (by decide +kernel)))) (sa_nil))) nd__law_like)))) (se_int)) (se_lst (sa_nil)))))) (sb_nil))
    (sb_cons (ss_if (st_cmp og_is (se_v v_law_like_due) (se_non)) (sb_one (ss_ret (se_cmp og_is (se_v v_law_like_told) (se_non)))) (sb_nil))
    (sb_cons (ss_if (st_cmp og_is (se_v v_law_like_due) (se_bl)) (sb_one (ss_ret (se_cmp og_is (se_v v_law_like_told) (se_bl)))) (sb_nil))
    (sb_cons (ss_if (st_cmp og_is (se_v v_law_like_due) (se_bl)) (sb_one (ss_ret (se_cmp og_is (se_v v_law_like_told) (se_bl)))) (sb_nil))
    (sb_cons (ss_if (st_tru (se_isi .str (by decide +kernel) X.n_isinstance (se_v v_law_like_due) (by decide +kernel) X.n_str bt_str)) (sb_one (ss_ret (se_and (se_isi .str (by decide +kernel) X.n_isinstance (se_v v_law_like_told) (by decide +kernel) X.n_str bt_str) (se_one (se_cmp og_eq (se_m F.plainAttrs_str F.slot_str_join F.type_str_join mg_join (se_str xz_empty oz_empty) (sa_cons (se_lst (sa_cons (se_v v_law_like_told) (sa_nil))) (sa_nil))) (se_v v_law_like_due)))))) (sb_nil))
    (sb_one (ss_ret (se_and (se_isi .int (by decide +kernel) X.n_isinstance (se_v v_law_like_told) (by decide +kernel) X.n_int bt_int) (se_and (se_not (se_isi .bool (by decide +kernel) X.n_isinstance (se_v v_law_like_told) (by decide +kernel) X.n_bool bt_bool)) (se_one (se_cmp og_eq (se_v v_law_like_told) (se_v v_law_like_due)))))))))))
abbrev N__law_bent_text : List Str := ["box", "text", "signs", "kind", "lines", "at", "row"]
theorem s__law_bent_text : FnScope N__law_bent_text ["box", "text", "signs"] (defScope t__law_bent_text) := fnScope_by (by decide +kernel)
theorem v_law_bent_text_box : Nm N__law_bent_text (defScope t__law_bent_text) "box" 0 := nm_by (by decide +kernel)
theorem v_law_bent_text_text : Nm N__law_bent_text (defScope t__law_bent_text) "text" 1 := nm_by (by decide +kernel)
theorem v_law_bent_text_kind : Nm N__law_bent_text (defScope t__law_bent_text) "kind" 3 := nm_by (by decide +kernel)
theorem v_law_bent_text_at : Nm N__law_bent_text (defScope t__law_bent_text) "at" 5 := nm_by (by decide +kernel)
theorem v_law_bent_text_signs : Nm N__law_bent_text (defScope t__law_bent_text) "signs" 2 := nm_by (by decide +kernel)
theorem v_law_bent_text_lines : Nm N__law_bent_text (defScope t__law_bent_text) "lines" 4 := nm_by (by decide +kernel)
theorem v_law_bent_text_row : Nm N__law_bent_text (defScope t__law_bent_text) "row" 6 := nm_by (by decide +kernel)
theorem l_law_bent_text_row : NmL N__law_bent_text (defScope t__law_bent_text) "row" 6 := nml_by (by decide +kernel)
theorem l_law_bent_text_at : NmL N__law_bent_text (defScope t__law_bent_text) "at" 5 := nml_by (by decide +kernel)
theorem l_law_bent_text_kind : NmL N__law_bent_text (defScope t__law_bent_text) "kind" 3 := nml_by (by decide +kernel)
theorem l_law_bent_text_lines : NmL N__law_bent_text (defScope t__law_bent_text) "lines" 4 := nml_by (by decide +kernel)
theorem w__law_bent_text {T : Tab} (X : Tx T) {k : Nat} {c : Nat → Fn} (h : ∀ g n, ar g = some n → FnA T k (T.adr g) n (c g)) : SB T N__law_bent_text (defScope t__law_bent_text) k true (defBody t__law_bent_text) (m__law_bent_text c) :=
  sb_cons (ss_parv l_law_bent_text_kind l_law_bent_text_lines (by decide) rfl (by decide +kernel) (by decide +kernel) (by decide +kernel) (se_call (h 21 2 rfl) (by decide +kernel) X.g__law_draw (sa_cons (se_v v_law_bent_text_box) (sa_cons (se_int) (sa_nil))) nd__law_draw) (se_m F.plainAttrs_str F.slot_str_split F.type_str_split mg_split (se_v v_law_bent_text_text) (sa_cons (se_str xz_nl oz_nl) (sa_nil))))
    (sb_cons (ss_v l_law_bent_text_at (se_op og_mod (se_ty cg_int (by decide +kernel) X.n_int bt_int (sa_cons (se_op og_add (se_op og_mul (se_call (h 21 2 rfl) (by decide +kernel) X.g__law_draw (sa_cons (se_v v_law_bent_text_box) (sa_cons (se_int) (sa_nil))) nd__law_draw) (se_int)) (se_call (h 21 2 rfl) (by decide +kernel) X.g__law_draw (sa_cons (se_v v_law_bent_text_box) (sa_cons (se_int) (sa_nil))) nd__law_draw)) (sa_nil))) (se_op og_add (se_bi cg_len (by decide +kernel) X.n_len bt_len (sa_cons (se_v v_law_bent_text_text) (sa_nil))) (se_int))))
    (sb_cons (ss_v l_law_bent_text_row (se_call (h 21 2 rfl) (by decide +kernel) X.g__law_draw (sa_cons (se_v v_law_bent_text_box) (sa_cons (se_bi cg_len (by decide +kernel) X.n_len bt_len (sa_cons (se_v v_law_bent_text_lines) (sa_nil))) (sa_nil))) nd__law_draw))
    (sb_cons (ss_if (st_cmp og_eq (se_v v_law_bent_text_kind) (se_int)) (sb_one (ss_ret (se_op og_add (se_slice (se_v v_law_bent_text_text) (sp_no) (sp_some (se_v v_law_bent_text_at))) (se_slice (se_v v_law_bent_text_text) (sp_some (se_op og_add (se_v v_law_bent_text_at) (se_int))) (sp_no))))) (sb_nil))
    (sb_cons (ss_if (st_cmp og_eq (se_v v_law_bent_text_kind) (se_int)) (sb_one (ss_ret (se_op og_add (se_op og_add (se_slice (se_v v_law_bent_text_text) (sp_no) (sp_some (se_v v_law_bent_text_at))) (se_slice (se_v v_law_bent_text_text) (sp_some (se_v v_law_bent_text_at)) (sp_some (se_op og_add (se_v v_law_bent_text_at) (se_int))))) (se_slice (se_v v_law_bent_text_text) (sp_some (se_v v_law_bent_text_at)) (sp_no))))) (sb_nil))
    (sb_cons (ss_if (st_cmp og_eq (se_v v_law_bent_text_kind) (se_int)) (sb_one (ss_ret (se_op og_add (se_op og_add (se_slice (se_v v_law_bent_text_text) (sp_no) (sp_some (se_v v_law_bent_text_at))) (se_call (h 22 2 rfl) (by decide +kernel) X.g__law_pick (sa_cons (se_v v_law_bent_text_box) (sa_cons (se_v v_law_bent_text_signs) (sa_nil))) nd__law_pick)) (se_slice (se_v v_law_bent_text_text) (sp_some (se_op og_add (se_v v_law_bent_text_at) (se_int))) (sp_no))))) (sb_nil))
    (sb_cons (ss_if (st_cmp og_eq (se_v v_law_bent_text_kind) (se_int)) (sb_one (ss_ret (se_op og_add (se_op og_add (se_op og_add (se_slice (se_v v_law_bent_text_text) (sp_no) (sp_some (se_v v_law_bent_text_at))) (se_slice (se_v v_law_bent_text_text) (sp_some (se_op og_add (se_v v_law_bent_text_at) (se_int))) (sp_some (se_op og_add (se_v v_law_bent_text_at) (se_int))))) (se_slice (se_v v_law_bent_text_text) (sp_some (se_v v_law_bent_text_at)) (sp_some (se_op og_add (se_v v_law_bent_text_at) (se_int))))) (se_slice (se_v v_law_bent_text_text) (sp_some (se_op og_add (se_v v_law_bent_text_at) (se_int))) (sp_no))))) (sb_nil))
    (sb_cons (ss_if (st_cmp og_eq (se_v v_law_bent_text_kind) (se_int)) (sb_one (ss_ret (se_m F.plainAttrs_str F.slot_str_join F.type_str_join mg_join (se_str xz_nl oz_nl) (sa_cons (se_op og_add (se_slice (se_v v_law_bent_text_lines) (sp_no) (sp_some (se_v v_law_bent_text_row))) (se_slice (se_v v_law_bent_text_lines) (sp_some (se_op og_add (se_v v_law_bent_text_row) (se_int))) (sp_no))) (sa_nil))))) (sb_nil))
    (sb_cons (ss_if (st_cmp og_eq (se_v v_law_bent_text_kind) (se_int)) (sb_one (ss_ret (se_m F.plainAttrs_str F.slot_str_join F.type_str_join mg_join (se_str xz_nl oz_nl) (sa_cons (se_op og_add (se_op og_add (se_slice (se_v v_law_bent_text_lines) (sp_no) (sp_some (se_v v_law_bent_text_row))) (se_slice (se_v v_law_bent_text_lines) (sp_some (se_v v_law_bent_text_row)) (sp_some (se_op og_add (se_v v_law_bent_text_row) (se_int))))) (se_slice (se_v v_law_bent_text_lines) (sp_some (se_v v_law_bent_text_row)) (sp_no))) (sa_nil))))) (sb_nil))
    (sb_cons (ss_if (st_cmp og_eq (se_v v_law_bent_text_kind) (se_int)) (sb_one (ss_ret (se_m F.plainAttrs_str F.slot_str_join F.type_str_join mg_join (se_str xz_nl oz_nl) (sa_cons (se_op og_add (se_op og_add (se_op og_add (se_slice (se_v v_law_bent_text_lines) (sp_no) (sp_some (se_v v_law_bent_text_row))) (se_slice (se_v v_law_bent_text_lines) (sp_some (se_op og_add (se_v v_law_bent_text_row) (se_int))) (sp_some (se_op og_add (se_v v_law_bent_text_row) (se_int))))) (se_slice (se_v v_law_bent_text_lines) (sp_some (se_v v_law_bent_text_row)) (sp_some (se_op og_add (se_v v_law_bent_text_row) (se_int))))) (se_slice (se_v v_law_bent_text_lines) (sp_some (se_op og_add (se_v v_law_bent_text_row) (se_int))) (sp_no))) (sa_nil))))) (sb_nil))
    (sb_cons (ss_if (st_cmp og_eq (se_v v_law_bent_text_kind) (se_int)) (sb_one (ss_ret (se_op og_add (se_op og_add (se_slice (se_v v_law_bent_text_text) (sp_no) (sp_some (se_v v_law_bent_text_at))) (se_call (h 22 2 rfl) (by decide +kernel) X.g__law_pick (sa_cons (se_v v_law_bent_text_box) (sa_cons (se_v v_law_bent_text_signs) (sa_nil))) nd__law_pick)) (se_slice (se_v v_law_bent_text_text) (sp_some (se_v v_law_bent_text_at)) (sp_no))))) (sb_nil))
    (sb_one (ss_ret (se_call (h 22 2 rfl) (by decide +kernel) X.g__law_pick (sa_cons (se_v v_law_bent_text_box) (sa_cons (se_lst (sa_cons (se_slice (se_v v_law_bent_text_text) (sp_no) (sp_some (se_neg (se_int)))) (sa_cons (se_op og_add (se_v v_law_bent_text_text) (se_str xz_nl oz_nl)) (sa_cons (se_op og_add (se_v v_law_bent_text_text) (se_str xz_sp oz_sp)) (sa_cons (se_op og_add (se_str xz_sp oz_sp) (se_v v_law_bent_text_text)) (sa_cons (se_str xz_empty oz_empty) (sa_cons (se_str xz_nl oz_nl) (sa_nil)))))))) (sa_nil))) nd__law_pick)))))))))))))
abbrev N__law_code : List Str := ["box", "many", "found", "k", "kind", "goal"]
theorem s__law_code : FnScope N__law_code ["box"] (defScope t__law_code) := fnScope_by (by decide +kernel)
theorem v_law_code_found : Nm N__law_code (defScope t__law_code) "found" 2 := nm_by (by decide +kernel)
theorem v_law_code_many : Nm N__law_code (defScope t__law_code) "many" 1 := nm_by (by decide +kernel)
theorem v_law_code_kind : Nm N__law_code (defScope t__law_code) "kind" 4 := nm_by (by decide +kernel)
theorem v_law_code_box : Nm N__law_code (defScope t__law_code) "box" 0 := nm_by (by decide +kernel)
theorem v_law_code_goal : Nm N__law_code (defScope t__law_code) "goal" 5 := nm_by (by decide +kernel)
theorem l_law_code_k : NmL N__law_code (defScope t__law_code) "k" 3 := nml_by (by decide +kernel)
theorem l_law_code_kind : NmL N__law_code (defScope t__law_code) "kind" 4 := nml_by (by decide +kernel)
theorem l_law_code_goal : NmL N__law_code (defScope t__law_code) "goal" 5 := nml_by (by decide +kernel)
theorem l_law_code_found : NmL N__law_code (defScope t__law_code) "found" 2 := nml_by (by decide +kernel)
theorem l_law_code_many : NmL N__law_code (defScope t__law_code) "many" 1 := nml_by (by decide +kernel)
theorem w__law_code {T : Tab} (X : Tx T) {k : Nat} {c : Nat → Fn} (h : ∀ g n, ar g = some n → FnA T k (T.adr g) n (c g)) : SB T N__law_code (defScope t__law_code) k true (defBody t__law_code) (m__law_code c) :=
  sb_cons (ss_v l_law_code_many (se_op og_add (se_int) (se_call (h 21 2 rfl) (by decide +kernel) X.g__law_draw (sa_cons (se_v v_law_code_box) (sa_cons (se_int) (sa_nil))) nd__law_draw)))
    (sb_cons (ss_v l_law_code_found (se_lst (sa_nil)))
    (sb_cons (ss_for (si_range1 (by decide +kernel) X.n_range (se_v v_law_code_many)) (sg_v l_law_code_k) (okg_name _) (sb_cons (ss_parv l_law_code_kind l_law_code_goal (by decide) rfl (by decide +kernel) (by decide +kernel) (by decide +kernel) (se_call (h 21 2 rfl) (by decide +kernel) X.g__law_draw (sa_cons (se_v v_law_code_box) (sa_cons (se_int) (sa_nil))) nd__law_draw) (se_call (h 21 2 rfl) (by decide +kernel) X.g__law_draw (sa_cons (se_v v_law_code_box) (sa_cons (se_op og_add (se_v v_law_code_many) (se_int)) (sa_nil))) nd__law_draw))
    (sb_one (ss_if (st_cmp og_lt (se_v v_law_code_kind) (se_int)) (sb_one (ss_expr (se_m F.plainAttrs_list F.slot_list_append F.type_list_append mg_append (se_v v_law_code_found) (sa_cons (se_tup (sa_cons (se_str xz_do oz_do) (sa_cons (se_call (h 22 2 rfl) (by decide +kernel) X.g__law_pick (sa_cons (se_v v_law_code_box) (sa_cons (se_lst (sa_cons (se_str xz_p oz_p) (sa_cons (se_str xz_q oz_q) (sa_cons (se_str xz_abcdef oz_abcdef) (sa_nil))))) (sa_nil))) nd__law_pick) (sa_nil)))) (sa_nil))))) (sb_one (ss_if (st_cmp og_lt (se_v v_law_code_kind) (se_int)) (sb_one (ss_expr (se_m F.plainAttrs_list F.slot_list_append F.type_list_append mg_append (se_v v_law_code_found) (sa_cons (se_tup (sa_cons (se_str xz_go oz_go) (sa_cons (se_ty cg_int (by decide +kernel) X.n_int bt_int (sa_cons (se_v v_law_code_goal) (sa_nil))) (sa_nil)))) (sa_nil))))) (sb_one (ss_if (st_cmp og_lt (se_v v_law_code_kind) (se_int)) (sb_one (ss_expr (se_m F.plainAttrs_list F.slot_list_append F.type_list_append mg_append (se_v v_law_code_found) (sa_cons (se_tup (sa_cons (se_str xz_unless oz_unless) (sa_cons (se_call (h 24 3 rfl) (by decide +kernel) X.g__law_test (sa_cons (se_v v_law_code_box) (sa_cons (se_tup (sa_cons (se_str xz_a oz_a) (sa_cons (se_str xz_b oz_b) (sa_nil)))) (sa_cons (se_int) (sa_nil)))) nd__law_test) (sa_cons (se_ty cg_int (by decide +kernel) X.n_int bt_int (sa_cons (se_v v_law_code_goal) (sa_nil))) (sa_nil))))) (sa_nil))))) (sb_one (ss_expr (se_m F.plainAttrs_list F.slot_list_append F.type_list_append mg_append (se_v v_law_code_found) (sa_cons (se_tup (sa_cons (se_str xz_stop oz_stop) (sa_nil))) (sa_nil)))))))))))))
    (sb_one (ss_ret (se_ty cg_tuple (by decide +kernel) X.n_tuple bt_tuple (sa_cons (se_v v_law_code_found) (sa_nil)))))))
abbrev N__law_read : List Str := ["text", "e"]
theorem s__law_read : FnScope N__law_read ["text"] (defScope t__law_read) := fnScope_by (by decide +kernel)
theorem v_law_read_text : Nm N__law_read (defScope t__law_read) "text" 0 := nm_by (by decide +kernel)
theorem v_law_read_e : Nm N__law_read (defScope t__law_read) "e" 1 := nm_by (by decide +kernel)
theorem w__law_read {T : Tab} (X : Tx T) {k : Nat} {c : Nat → Fn} (h : ∀ g n, ar g = some n → FnA T k (T.adr g) n (c g)) : SB T N__law_read (defScope t__law_read) k true (defBody t__law_read) (m__law_read c) :=
  sb_one (ss_try (sb_one (ss_ret (se_tup (sa_cons (se_bl) (sa_cons (se_call (h 18 1 rfl) (by decide +kernel) X.g_read_code (sa_cons (se_v v_law_read_text) (sa_nil)) nd_read_code) (sa_nil)))))) (.named (cx := 40) (i := 1) (by decide +kernel) nd_BadText X.g_BadText (mt_ok (l := [(39, false), (40, true)]) ⟨X.em_BadThing_BadText, X.em_BadText_BadText, trivial⟩) rfl (by decide +kernel) (sx_tup (sxa_cons (sx_of (se_bl)) (sxa_cons (sx_fld [40] 1 1 X.a1 (fun c hc => by simp only [List.mem_cons, List.not_mem_nil, or_false] at hc; subst hc; exact X.xf_BadText_place) v_law_read_e.hN v_law_read_e.hv v_law_read_e.hd v_law_read_e.hc) (sxa_nil)))) (.named (cx := 39) (i := 1) (by decide +kernel) nd_BadThing X.g_BadThing (mt_ok (l := [(39, true), (40, false)]) ⟨X.em_BadThing_BadThing, X.em_BadText_BadThing, trivial⟩) rfl (by decide +kernel) (sx_tup (sxa_cons (sx_of (se_bl)) (sxa_cons (sx_fld [39] 0 1 X.a0 (fun c hc => by simp only [List.mem_cons, List.not_mem_nil, or_false] at hc; subst hc; exact X.xf_BadThing_reason) v_law_read_e.hN v_law_read_e.hv v_law_read_e.hd v_law_read_e.hc) (sxa_nil)))) (.nil))))
abbrev N__law_is_refused : List Str := ["line", "told"]
theorem s__law_is_refused : FnScope N__law_is_refused ["line"] (defScope t__law_is_refused) := fnScope_by (by decide +kernel)
theorem v_law_is_refused_told : Nm N__law_is_refused (defScope t__law_is_refused) "told" 1 := nm_by (by decide +kernel)
theorem v_law_is_refused_line : Nm N__law_is_refused (defScope t__law_is_refused) "line" 0 := nm_by (by decide +kernel)
theorem l_law_is_refused_told : NmL N__law_is_refused (defScope t__law_is_refused) "told" 1 := nml_by (by decide +kernel)
theorem w__law_is_refused {T : Tab} (X : Tx T) {k : Nat} {c : Nat → Fn} (h : ∀ g n, ar g = some n → FnA T k (T.adr g) n (c g)) : SB T N__law_is_refused (defScope t__law_is_refused) k true (defBody t__law_is_refused) (m__law_is_refused c) :=
  sb_cons (ss_v l_law_is_refused_told (se_call (h 28 1 rfl) (by decide +kernel) X.g__law_read (sa_cons (se_op og_add (se_v v_law_is_refused_line) (se_str xz_nl oz_nl)) (sa_nil)) nd__law_read))
    (sb_one (ss_ret (se_cmp og_eq (se_v v_law_is_refused_told) (se_tup (sa_cons (se_bl) (sa_cons (se_int) (sa_nil)))))))
abbrev N_law : List Str := ["script", "box", "code", "text", "signs", "turn", "bent", "good", "told", "lines", "line"]
theorem s_law : FnScope N_law ["script"] (defScope t_law) := fnScope_by (by decide +kernel)
theorem vlaw_good : Nm N_law (defScope t_law) "good" 7 := nm_by (by decide +kernel)
theorem vlaw_told : Nm N_law (defScope t_law) "told" 8 := nm_by (by decide +kernel)
theorem vlaw_code : Nm N_law (defScope t_law) "code" 2 := nm_by (by decide +kernel)
theorem vlaw_bent : Nm N_law (defScope t_law) "bent" 6 := nm_by (by decide +kernel)
theorem vlaw_text : Nm N_law (defScope t_law) "text" 3 := nm_by (by decide +kernel)
theorem vlaw_lines : Nm N_law (defScope t_law) "lines" 9 := nm_by (by decide +kernel)
theorem vlaw_box : Nm N_law (defScope t_law) "box" 1 := nm_by (by decide +kernel)
theorem vlaw_signs : Nm N_law (defScope t_law) "signs" 4 := nm_by (by decide +kernel)
theorem vlaw_script : Nm N_law (defScope t_law) "script" 0 := nm_by (by decide +kernel)
theorem llaw_turn : NmL N_law (defScope t_law) "turn" 5 := nml_by (by decide +kernel)
theorem llaw_lines : NmL N_law (defScope t_law) "lines" 9 := nml_by (by decide +kernel)
theorem llaw_told : NmL N_law (defScope t_law) "told" 8 := nml_by (by decide +kernel)
theorem llaw_good : NmL N_law (defScope t_law) "good" 7 := nml_by (by decide +kernel)
theorem llaw_bent : NmL N_law (defScope t_law) "bent" 6 := nml_by (by decide +kernel)
theorem llaw_signs : NmL N_law (defScope t_law) "signs" 4 := nml_by (by decide +kernel)
theorem llaw_text : NmL N_law (defScope t_law) "text" 3 := nml_by (by decide +kernel)
theorem llaw_code : NmL N_law (defScope t_law) "code" 2 := nml_by (by decide +kernel)
theorem llaw_box : NmL N_law (defScope t_law) "box" 1 := nml_by (by decide +kernel)
theorem w_law {T : Tab} (X : Tx T) {k : Nat} {c : Nat → Fn} (h : ∀ g n, ar g = some n → FnA T k (T.adr g) n (c g)) : SB T N_law (defScope t_law) k true (defBody t_law) (m_law c) :=
  sb_cons (ss_v llaw_box (se_lst (sa_cons (se_call (h 20 3 rfl) (by decide +kernel) X.g__law_digits (sa_cons (se_v vlaw_script) (sa_cons (se_int) (sa_cons (se_int) (sa_nil)))) nd__law_digits) (sa_cons (se_int) (sa_nil)))))
    (sb_cons (ss_v llaw_code (se_call (h 27 1 rfl) (by decide +kernel) X.g__law_code (sa_cons (se_v vlaw_box) (sa_nil)) nd__law_code))
    (sb_cons (ss_v llaw_text (se_call (h 17 1 rfl) (by decide +kernel) X.g_format_code (sa_cons (se_v vlaw_code) (sa_nil)) nd_format_code))
    (sb_cons (ss_if (st_not (st_tru (se_call (h 25 2 rfl) (by decide +kernel) X.g__law_like (sa_cons (se_call (h 28 1 rfl) (by decide +kernel) X.g__law_read (sa_cons (se_v vlaw_text) (sa_nil)) nd__law_read) (sa_cons (se_tup (sa_cons (se_bl) (sa_cons (se_v vlaw_code) (sa_nil)))) (sa_nil))) nd__law_like))) (sb_one (ss_ret (se_bl))) (sb_nil))
    (sb_cons (ss_v llaw_signs (se_lst (sa_cons (se_str xz_sp oz_sp) (sa_cons (se_str xz_0 oz_0) (sa_cons (se_str xz_1 oz_1) (sa_cons (se_str xz_9 oz_9) (sa_cons (se_str xz_a oz_a) (sa_cons (se_str xz_p oz_p) (sa_cons (se_str xz_bang oz_bang) (sa_cons (se_str xz_lp oz_lp) (sa_cons (se_str xz_rp oz_rp) (sa_cons (se_str xz_amp oz_amp) (sa_cons (se_str xz_bar oz_bar) (sa_cons (se_str xz_nl oz_nl) (sa_cons (se_str xz_go oz_go) (sa_cons (se_str xz_00 oz_00) (sa_cons (se_str xz_if oz_if) (sa_cons (se_str xz_A oz_A) (sa_nil)))))))))))))))))))
    (sb_cons (ss_for (si_range1 (by decide +kernel) X.n_range (se_int)) (sg_v llaw_turn) (okg_name _) (sb_cons (ss_v llaw_bent (se_call (h 26 3 rfl) (by decide +kernel) X.g__law_bent_text (sa_cons (se_v vlaw_box) (sa_cons (se_v vlaw_text) (sa_cons (se_v vlaw_signs) (sa_nil)))) nd__law_bent_text))
    (sb_cons (ss_asg (se_call (h 28 1 rfl) (by decide +kernel) X.g__law_read (sa_cons (se_v vlaw_bent) (sa_nil)) nd__law_read) (sg_tup (sgs_cons (sg_v llaw_good) (sgs_cons (sg_v llaw_told) (sgs_nil)))) (okg_tup (okgs_cons (okg_name _) (okgs_cons (okg_name _) okgs_nil))))
    (sb_cons (ss_v llaw_lines (se_m F.plainAttrs_str F.slot_str_split F.type_str_split mg_split (se_v vlaw_bent) (sa_cons (se_str xz_nl oz_nl) (sa_nil))))
    (sb_one (ss_if (st_tru (se_v vlaw_good)) (sb_one (ss_if (st_w (sw_or (st_cmp og_isn (se_call (h 14 1 rfl) (by decide +kernel) X.g_code_fault (sa_cons (se_v vlaw_told) (sa_nil)) nd_code_fault) (se_non)) (sw_or (st_cmp og_ne (se_call (h 17 1 rfl) (by decide +kernel) X.g_format_code (sa_cons (se_v vlaw_told) (sa_nil)) nd_format_code) (se_v vlaw_bent)) (sw_or1 (st_w (sw_and (st_cmp og_ne (se_v vlaw_bent) (se_v vlaw_text)) (sw_and1 (st_tru (se_call (h 23 2 rfl) (by decide +kernel) X.g__law_same (sa_cons (se_v vlaw_told) (sa_cons (se_v vlaw_code) (sa_nil))) nd__law_same))))))))) (sb_one (ss_ret (se_bl))) (sb_nil))) (sb_one (ss_if (st_cmp og_eq (se_v vlaw_told) (se_str xz_code oz_code)) (sb_one (ss_if (st_w (sw_or (st_cmp og_eq (se_v vlaw_bent) (se_v vlaw_text)) (sw_or (st_cmp og_ne (se_ix og_ix (se_v vlaw_lines) (se_neg (se_int))) (se_str xz_empty oz_empty)) (sw_or1 (st_cmp og_ne (se_comp (own := [("line", 10)]) (sh := .one 10) (si_list (se_slice (se_v vlaw_lines) (sp_no) (sp_some (se_neg (se_int))))) (blkOk_by (by decide +kernel)) (by decide) (tg_v (i := 10) rfl (by decide +kernel)) (sts_one (st_tru (se_call (h 29 1 rfl) (by decide +kernel) X.g__law_is_refused (sa_cons (se_v (i := 10) (nm_by (by decide +kernel))) (sa_nil)) nd__law_is_refused))) (se_v (i := 10) (nm_by (by decide +kernel)))) (se_lst (sa_nil))))))) (sb_one (ss_ret (se_bl))) (sb_nil))) (sb_cons (ss_if (st_w (sw_or (st_cmp og_eq (se_v vlaw_bent) (se_v vlaw_text)) (sw_or (st_not (st_tru (se_isi .int (by decide +kernel) X.n_isinstance (se_v vlaw_told) (by decide +kernel) X.n_int bt_int))) (sw_or (st_tru (se_isi .bool (by decide +kernel) X.n_isinstance (se_v vlaw_told) (by decide +kernel) X.n_bool bt_bool)) (sw_or1 (st_not (st_chain og_le og_lt (se_int) (se_v vlaw_told) (se_bi cg_len (by decide +kernel) X.n_len bt_len (sa_cons (se_v vlaw_lines) (sa_nil)))))))))) (sb_one (ss_ret (se_bl))) (sb_nil))
    (sb_cons (ss_if (st_w (sw_or (st_cmp og_ne (se_comp (own := [("line", 10)]) (sh := .one 10) (si_list (se_slice (se_v vlaw_lines) (sp_no) (sp_some (se_v vlaw_told)))) (blkOk_by (by decide +kernel)) (by decide) (tg_v (i := 10) rfl (by decide +kernel)) (sts_one (st_tru (se_call (h 29 1 rfl) (by decide +kernel) X.g__law_is_refused (sa_cons (se_v (i := 10) (nm_by (by decide +kernel))) (sa_nil)) nd__law_is_refused))) (se_v (i := 10) (nm_by (by decide +kernel)))) (se_lst (sa_nil))) (sw_or1 (st_w (sw_and (st_cmp og_lt (se_v vlaw_told) (se_op og_sub (se_bi cg_len (by decide +kernel) X.n_len bt_len (sa_cons (se_v vlaw_lines) (sa_nil))) (se_int))) (sw_and1 (st_not (st_tru (se_call (h 29 1 rfl) (by decide +kernel) X.g__law_is_refused (sa_cons (se_ix og_ix (se_v vlaw_lines) (se_v vlaw_told)) (sa_nil)) nd__law_is_refused))))))))) (sb_one (ss_ret (se_bl))) (sb_nil))
    (sb_one (ss_if (st_w (sw_and (st_cmp og_eq (se_v vlaw_told) (se_op og_sub (se_bi cg_len (by decide +kernel) X.n_len bt_len (sa_cons (se_v vlaw_lines) (sa_nil))) (se_int))) (sw_and1 (st_cmp og_eq (se_ix og_ix (se_v vlaw_lines) (se_neg (se_int))) (se_str xz_empty oz_empty))))) (sb_one (ss_ret (se_bl))) (sb_nil)))))))))))))
    (sb_cons (ss_if (st_w (sw_or (st_not (st_tru (se_call (h 25 2 rfl) (by decide +kernel) X.g__law_like (sa_cons (se_call (h 28 1 rfl) (by decide +kernel) X.g__law_read (sa_cons (se_non) (sa_nil)) nd__law_read) (sa_cons (se_tup (sa_cons (se_bl) (sa_cons (se_str xz_text oz_text) (sa_nil)))) (sa_nil))) nd__law_like))) (sw_or1 (st_not (st_tru (se_call (h 25 2 rfl) (by decide +kernel) X.g__law_like (sa_cons (se_call (h 28 1 rfl) (by decide +kernel) X.g__law_read (sa_cons (se_str xz_empty oz_empty) (sa_nil)) nd__law_read) (sa_cons (se_tup (sa_cons (se_bl) (sa_cons (se_tup (sa_nil)) (sa_nil)))) (sa_nil))) nd__law_like)))))) (sb_one (ss_ret (se_bl))) (sb_nil))
    (sb_one (ss_ret (se_and (se_call (h 25 2 rfl) (by decide +kernel) X.g__law_like (sa_cons (se_call (h 28 1 rfl) (by decide +kernel) X.g__law_read (sa_cons (se_str xz_go_1_ oz_go_1_) (sa_nil)) nd__law_read) (sa_cons (se_tup (sa_cons (se_bl) (sa_cons (se_tup (sa_cons (se_tup (sa_cons (se_str xz_go oz_go) (sa_cons (se_int) (sa_nil)))) (sa_nil))) (sa_nil)))) (sa_nil))) nd__law_like) (se_one (se_call (h 25 2 rfl) (by decide +kernel) X.g__law_like (sa_cons (se_call (h 28 1 rfl) (by decide +kernel) X.g__law_read (sa_cons (se_str xz_go_2_ oz_go_2_) (sa_nil)) nd__law_read) (sa_cons (se_tup (sa_cons (se_bl) (sa_cons (se_str xz_code oz_code) (sa_nil)))) (sa_nil))) nd__law_like)))))))))))
abbrev N_Signs___init__ : List Str := ["self", "text"]
theorem s_Signs___init__ : FnScope N_Signs___init__ ["self", "text"] (defScope t_Signs___init__) := fnScope_by (by decide +kernel)
theorem vSigns___init___self : Nm N_Signs___init__ (defScope t_Signs___init__) "self" 0 := nm_by (by decide +kernel)
theorem vSigns___init___text : Nm N_Signs___init__ (defScope t_Signs___init__) "text" 1 := nm_by (by decide +kernel)
theorem w_Signs___init__ {T : Tab} (X : Tx T) {k : Nat} {c : Nat → Fn} (h : ∀ g n, ar g = some n → FnA T k (T.adr g) n (c g)) : SB T N_Signs___init__ (defScope t_Signs___init__) k true (defBody t_Signs___init__) (m_Signs___init__ c) :=
  sb_cons (ss_fld [41] 9 X.a9 (fun c hc => by simp only [List.mem_cons, List.not_mem_nil, or_false] at hc; subst hc; exact X.cf_Signs_rows) (se_v vSigns___init___self) (se_call (h 3 1 rfl) (by decide +kernel) X.g_signs_of (sa_cons (se_v vSigns___init___text) (sa_nil)) nd_signs_of))
    (sb_cons (ss_fld [41] 8 X.a8 (fun c hc => by simp only [List.mem_cons, List.not_mem_nil, or_false] at hc; subst hc; exact X.cf_Signs_end) (se_v vSigns___init___self) (se_bi cg_len (by decide +kernel) X.n_len bt_len (sa_cons (se_v vSigns___init___text) (sa_nil))))
    (sb_one (ss_fld [41] 7 X.a7 (fun c hc => by simp only [List.mem_cons, List.not_mem_nil, or_false] at hc; subst hc; exact X.cf_Signs_at) (se_v vSigns___init___self) (se_int))))
abbrev N_Signs_place : List Str := ["self"]
theorem s_Signs_place : FnScope N_Signs_place ["self"] (defScope t_Signs_place) := fnScope_by (by decide +kernel)
theorem vSigns_place_self : Nm N_Signs_place (defScope t_Signs_place) "self" 0 := nm_by (by decide +kernel)
theorem w_Signs_place {T : Tab} (X : Tx T) {k : Nat} {c : Nat → Fn} (h : ∀ g n, ar g = some n → FnA T k (T.adr g) n (c g)) : SB T N_Signs_place (defScope t_Signs_place) k true (defBody t_Signs_place) (m_Signs_place c) :=
  sb_one (ss_ret (se_ifx (st_cmp og_lt (se_fld [41] 7 X.a7 (fun c hc => by simp only [List.mem_cons, List.not_mem_nil, or_false] at hc; subst hc; exact X.cf_Signs_at) (se_v vSigns_place_self)) (se_bi cg_len (by decide +kernel) X.n_len bt_len (sa_cons (se_fld [41] 9 X.a9 (fun c hc => by simp only [List.mem_cons, List.not_mem_nil, or_false] at hc; subst hc; exact X.cf_Signs_rows) (se_v vSigns_place_self)) (sa_nil)))) (se_ix og_ix (se_ix og_ix (se_fld [41] 9 X.a9 (fun c hc => by simp only [List.mem_cons, List.not_mem_nil, or_false] at hc; subst hc; exact X.cf_Signs_rows) (se_v vSigns_place_self)) (se_fld [41] 7 X.a7 (fun c hc => by simp only [List.mem_cons, List.not_mem_nil, or_false] at hc; subst hc; exact X.cf_Signs_at) (se_v vSigns_place_self))) (se_int)) (se_fld [41] 8 X.a8 (fun c hc => by simp only [List.mem_cons, List.not_mem_nil, or_false] at hc; subst hc; exact X.cf_Signs_end) (se_v vSigns_place_self))))
abbrev N_Signs_sees : List Str := ["self", "text"]
theorem s_Signs_sees : FnScope N_Signs_sees ["self", "text"] (defScope t_Signs_sees) := fnScope_by (by decide +kernel)
theorem vSigns_sees_self : Nm N_Signs_sees (defScope t_Signs_sees) "self" 0 := nm_by (by decide +kernel)
theorem vSigns_sees_text : Nm N_Signs_sees (defScope t_Signs_sees) "text" 1 := nm_by (by decide +kernel)
theorem w_Signs_sees {T : Tab} (X : Tx T) {k : Nat} {c : Nat → Fn} (h : ∀ g n, ar g = some n → FnA T k (T.adr g) n (c g)) : SB T N_Signs_sees (defScope t_Signs_sees) k true (defBody t_Signs_sees) (m_Signs_sees c) :=
  sb_one (ss_ret (se_and (se_cmp og_lt (se_fld [41] 7 X.a7 (fun c hc => by simp only [List.mem_cons, List.not_mem_nil, or_false] at hc; subst hc; exact X.cf_Signs_at) (se_v vSigns_sees_self)) (se_bi cg_len (by decide +kernel) X.n_len bt_len (sa_cons (se_fld [41] 9 X.a9 (fun c hc => by simp only [List.mem_cons, List.not_mem_nil, or_false] at hc; subst hc; exact X.cf_Signs_rows) (se_v vSigns_sees_self)) (sa_nil)))) (se_one (se_cmp og_eq (se_ix og_ix (se_ix og_ix (se_fld [41] 9 X.a9 (fun c hc => by simp only [List.mem_cons, List.not_mem_nil, or_false] at hc; subst hc; exact X.cf_Signs_rows) (se_v vSigns_sees_self)) (se_fld [41] 7 X.a7 (fun c hc => by simp only [List.mem_cons, List.not_mem_nil, or_false] at hc; subst hc; exact X.cf_Signs_at) (se_v vSigns_sees_self))) (se_int)) (se_v vSigns_sees_text)))))
abbrev N_Signs_word : List Str := ["self"]
theorem s_Signs_word : FnScope N_Signs_word ["self"] (defScope t_Signs_word) := fnScope_by (by decide +kernel)
theorem vSigns_word_self : Nm N_Signs_word (defScope t_Signs_word) "self" 0 := nm_by (by decide +kernel)
theorem w_Signs_word {T : Tab} (X : Tx T) {k : Nat} {c : Nat → Fn} (h : ∀ g n, ar g = some n → FnA T k (T.adr g) n (c g)) : SB T N_Signs_word (defScope t_Signs_word) k true (defBody t_Signs_word) (m_Signs_word c) :=
  sb_cons (ss_if (st_w (sw_and (st_cmp og_lt (se_fld [41] 7 X.a7 (fun c hc => by simp only [List.mem_cons, List.not_mem_nil, or_false] at hc; subst hc; exact X.cf_Signs_at) (se_v vSigns_word_self)) (se_bi cg_len (by decide +kernel) X.n_len bt_len (sa_cons (se_fld [41] 9 X.a9 (fun c hc => by simp only [List.mem_cons, List.not_mem_nil, or_false] at hc; subst hc; exact X.cf_Signs_rows) (se_v vSigns_word_self)) (sa_nil)))) (sw_and1 (st_cmp og_eq (se_ix og_ix (se_ix og_ix (se_fld [41] 9 X.a9 (fun c hc => by simp only [List.mem_cons, List.not_mem_nil, or_false] at hc; subst hc; exact X.cf_Signs_rows) (se_v vSigns_word_self)) (se_fld [41] 7 X.a7 (fun c hc => by simp only [List.mem_cons, List.not_mem_nil, or_false] at hc; subst hc; exact X.cf_Signs_at) (se_v vSigns_word_self))) (se_int)) (se_str xz_word oz_word))))) (sb_one (ss_ret (se_ix og_ix (se_ix og_ix (se_fld [41] 9 X.a9 (fun c hc => by simp only [List.mem_cons, List.not_mem_nil, or_false] at hc; subst hc; exact X.cf_Signs_rows) (se_v vSigns_word_self)) (se_fld [41] 7 X.a7 (fun c hc => by simp only [List.mem_cons, List.not_mem_nil, or_false] at hc; subst hc; exact X.cf_Signs_at) (se_v vSigns_word_self))) (se_int)))) (sb_nil))
    (sb_one (ss_ret (se_non)))
abbrev N_Signs_take : List Str := ["self", "text"]
theorem s_Signs_take : FnScope N_Signs_take ["self", "text"] (defScope t_Signs_take) := fnScope_by (by decide +kernel)
theorem vSigns_take_self : Nm N_Signs_take (defScope t_Signs_take) "self" 0 := nm_by (by decide +kernel)
theorem vSigns_take_text : Nm N_Signs_take (defScope t_Signs_take) "text" 1 := nm_by (by decide +kernel)
theorem w_Signs_take {T : Tab} (X : Tx T) {k : Nat} {c : Nat → Fn} (h : ∀ g n, ar g = some n → FnA T k (T.adr g) n (c g)) : SB T N_Signs_take (defScope t_Signs_take) k true (defBody t_Signs_take) (m_Signs_take c) :=
  sb_cons (ss_if (st_not (st_tru (se_meth 41 6 X.a6 X.cl_Signs X.me_Signs_sees (h 33 2 rfl) (se_v vSigns_take_self) (sa_cons (se_v vSigns_take_text) (sa_nil))))) (sb_one (ss_raiseK X.er_BadText (by decide +kernel) X.g_BadText nd_BadText (sa_cons (se_meth0 41 1 X.a1 X.cl_Signs X.me_Signs_place (h 32 1 rfl) (se_v vSigns_take_self)) (sa_nil)))) (sb_nil))
    (sb_one (ss_fldaug [41] 7 X.a7 (fun c hc => by simp only [List.mem_cons, List.not_mem_nil, or_false] at hc; subst hc; exact X.cf_Signs_at) (se_v vSigns_take_self) (se_int) og_iadd))
abbrev N_Signs_took : List Str := ["self", "text"]
theorem s_Signs_took : FnScope N_Signs_took ["self", "text"] (defScope t_Signs_took) := fnScope_by (by decide +kernel)
theorem vSigns_took_self : Nm N_Signs_took (defScope t_Signs_took) "self" 0 := nm_by (by decide +kernel)
theorem vSigns_took_text : Nm N_Signs_took (defScope t_Signs_took) "text" 1 := nm_by (by decide +kernel)
theorem w_Signs_took {T : Tab} (X : Tx T) {k : Nat} {c : Nat → Fn} (h : ∀ g n, ar g = some n → FnA T k (T.adr g) n (c g)) : SB T N_Signs_took (defScope t_Signs_took) k true (defBody t_Signs_took) (m_Signs_took c) :=
  sb_cons (ss_if (st_tru (se_meth 41 6 X.a6 X.cl_Signs X.me_Signs_sees (h 33 2 rfl) (se_v vSigns_took_self) (sa_cons (se_v vSigns_took_text) (sa_nil)))) (sb_cons (ss_fldaug [41] 7 X.a7 (fun c hc => by simp only [List.mem_cons, List.not_mem_nil, or_false] at hc; subst hc; exact X.cf_Signs_at) (se_v vSigns_took_self) (se_int) og_iadd)
    (sb_one (ss_ret (se_bl)))) (sb_nil))
    (sb_one (ss_ret (se_bl)))
abbrev N_Signs_done : List Str := ["self"]
theorem s_Signs_done : FnScope N_Signs_done ["self"] (defScope t_Signs_done) := fnScope_by (by decide +kernel)
theorem vSigns_done_self : Nm N_Signs_done (defScope t_Signs_done) "self" 0 := nm_by (by decide +kernel)
theorem w_Signs_done {T : Tab} (X : Tx T) {k : Nat} {c : Nat → Fn} (h : ∀ g n, ar g = some n → FnA T k (T.adr g) n (c g)) : SB T N_Signs_done (defScope t_Signs_done) k true (defBody t_Signs_done) (m_Signs_done c) :=
  sb_one (ss_if (st_cmp og_lt (se_fld [41] 7 X.a7 (fun c hc => by simp only [List.mem_cons, List.not_mem_nil, or_false] at hc; subst hc; exact X.cf_Signs_at) (se_v vSigns_done_self)) (se_bi cg_len (by decide +kernel) X.n_len bt_len (sa_cons (se_fld [41] 9 X.a9 (fun c hc => by simp only [List.mem_cons, List.not_mem_nil, or_false] at hc; subst hc; exact X.cf_Signs_rows) (se_v vSigns_done_self)) (sa_nil)))) (sb_one (ss_raiseK X.er_BadText (by decide +kernel) X.g_BadText nd_BadText (sa_cons (se_meth0 41 1 X.a1 X.cl_Signs X.me_Signs_place (h 32 1 rfl) (se_v vSigns_done_self)) (sa_nil)))) (sb_nil))
theorem walk {T : Tab} (X : Tx T) : ∀ (k : Nat) (g n : Nat), ar g = some n → FnA T k (T.adr g) n (callF k g)
  | 0, g, n, h => by
    match g, h with
    | 0, rfl => exact fnA_0 X.f0
    | 1, rfl => exact fnA_0 X.f1
    | 2, rfl => exact fnA_0 X.f2
    | 3, rfl => exact fnA_0 X.f3
    | 4, rfl => exact fnA_0 X.f4
    | 5, rfl => exact fnA_0 X.f5
    | 6, rfl => exact fnA_0 X.f6
    | 7, rfl => exact fnA_0 X.f7
    | 8, rfl => exact fnA_0 X.f8
    | 9, rfl => exact fnA_0 X.f9
    | 10, rfl => exact fnA_0 X.f10
    | 11, rfl => exact fnA_0 X.f11
    | 12, rfl => exact fnA_0 X.f12
    | 13, rfl => exact fnA_0 X.f13
    | 14, rfl => exact fnA_0 X.f14
    | 15, rfl => exact fnA_0 X.f15
    | 16, rfl => exact fnA_0 X.f16
    | 17, rfl => exact fnA_0 X.f17
    | 18, rfl => exact fnA_0 X.f18
    | 19, rfl => exact fnA_0 X.f19
    | 20, rfl => exact fnA_0 X.f20
    | 21, rfl => exact fnA_0 X.f21
    | 22, rfl => exact fnA_0 X.f22
    | 23, rfl => exact fnA_0 X.f23
    | 24, rfl => exact fnA_0 X.f24
    | 25, rfl => exact fnA_0 X.f25
    | 26, rfl => exact fnA_0 X.f26
    | 27, rfl => exact fnA_0 X.f27
    | 28, rfl => exact fnA_0 X.f28
    | 29, rfl => exact fnA_0 X.f29
    | 30, rfl => exact fnA_0 X.f30
    | 31, rfl => exact fnA_0 X.f31
    | 32, rfl => exact fnA_0 X.f32
    | 33, rfl => exact fnA_0 X.f33
    | 34, rfl => exact fnA_0 X.f34
    | 35, rfl => exact fnA_0 X.f35
    | 36, rfl => exact fnA_0 X.f36
    | 37, rfl => exact fnA_0 X.f37
  | k + 1, g, n, h => by
    match g, h with
    | 0, rfl => exact fnA_K X.f0 s_is_integer (w_is_integer X fun g n => walk X k g n)
    | 1, rfl => exact fnA_K X.f1 s_is_name (w_is_name X fun g n => walk X k g n)
    | 2, rfl => exact fnA_K X.f2 s_is_figures (w_is_figures X fun g n => walk X k g n)
    | 3, rfl => exact fnA_K X.f3 s_signs_of (w_signs_of X fun g n => walk X k g n)
    | 4, rfl => exact fnA_K X.f4 s_is_test (w_is_test X fun g n => walk X k g n)
    | 5, rfl => exact fnA_K X.f5 s_inner_of (w_inner_of X fun g n => walk X k g n)
    | 6, rfl => exact fnA_K X.f6 s_check_test (w_check_test X fun g n => walk X k g n)
    | 7, rfl => exact fnA_K X.f7 s_format_test (w_format_test X fun g n => walk X k g n)
    | 8, rfl => exact fnA_K X.f8 s_written (w_written X fun g n => walk X k g n)
    | 9, rfl => exact fnA_K X.f9 s_bracketed (w_bracketed X fun g n => walk X k g n)
    | 10, rfl => exact fnA_K X.f10 s_read_test (w_read_test X fun g n => walk X k g n)
    | 11, rfl => exact fnA_K X.f11 s_read_or (w_read_or X fun g n => walk X k g n)
    | 12, rfl => exact fnA_K X.f12 s_read_and (w_read_and X fun g n => walk X k g n)
    | 13, rfl => exact fnA_K X.f13 s_read_least (w_read_least X fun g n => walk X k g n)
    | 14, rfl => exact fnA_K X.f14 s_code_fault (w_code_fault X fun g n => walk X k g n)
    | 15, rfl => exact fnA_K X.f15 s_is_line (w_is_line X fun g n => walk X k g n)
    | 16, rfl => exact fnA_K X.f16 s_check_code (w_check_code X fun g n => walk X k g n)
    | 17, rfl => exact fnA_K X.f17 s_format_code (w_format_code X fun g n => walk X k g n)
    | 18, rfl => exact fnA_K X.f18 s_read_code (w_read_code X fun g n => walk X k g n)
    | 19, rfl => exact fnA_K X.f19 s_line_of (w_line_of X fun g n => walk X k g n)
    | 20, rfl => exact fnA_K X.f20 s__law_digits (w__law_digits X fun g n => walk X k g n)
    | 21, rfl => exact fnA_K X.f21 s__law_draw (w__law_draw X fun g n => walk X k g n)
    | 22, rfl => exact fnA_K X.f22 s__law_pick (w__law_pick X fun g n => walk X k g n)
    | 23, rfl => exact fnA_K X.f23 s__law_same (w__law_same X fun g n => walk X k g n)
    | 24, rfl => exact fnA_K X.f24 s__law_test (w__law_test X fun g n => walk X k g n)
    | 25, rfl => exact fnA_K X.f25 s__law_like (w__law_like X fun g n => walk X k g n)
    | 26, rfl => exact fnA_K X.f26 s__law_bent_text (w__law_bent_text X fun g n => walk X k g n)
    | 27, rfl => exact fnA_K X.f27 s__law_code (w__law_code X fun g n => walk X k g n)
    | 28, rfl => exact fnA_K X.f28 s__law_read (w__law_read X fun g n => walk X k g n)
    | 29, rfl => exact fnA_K X.f29 s__law_is_refused (w__law_is_refused X fun g n => walk X k g n)
    | 30, rfl => exact fnA_K X.f30 s_law (w_law X fun g n => walk X k g n)
    | 31, rfl => exact fnA_K X.f31 s_Signs___init__ (w_Signs___init__ X fun g n => walk X k g n)
    | 32, rfl => exact fnA_K X.f32 s_Signs_place (w_Signs_place X fun g n => walk X k g n)
    | 33, rfl => exact fnA_K X.f33 s_Signs_sees (w_Signs_sees X fun g n => walk X k g n)
    | 34, rfl => exact fnA_K X.f34 s_Signs_word (w_Signs_word X fun g n => walk X k g n)
    | 35, rfl => exact fnA_K X.f35 s_Signs_take (w_Signs_take X fun g n => walk X k g n)
    | 36, rfl => exact fnA_K X.f36 s_Signs_took (w_Signs_took X fun g n => walk X k g n)
    | 37, rfl => exact fnA_K X.f37 s_Signs_done (w_Signs_done X fun g n => walk X k g n)
def adrs (l : List Addr) (i : Nat) : Addr := l.getD i 0
def mkTab (P : Program) (w : World) (K : PySem.W.Frag) (mg : Str → Option Value) (base : Heap) (l : List Addr) : Tab := ⟨P, w, K, mg, base, adrs l, nmOf attrs, nmOf_inj (by decide +kernel) (by decide +kernel)⟩
theorem facts {w : World} {K : PySem.W.Frag} {h : Heap} {mg : Str → Option Value} {p0 p1 p2 p3 p4 p5 p6 p7 p8 p9 p10 p11 p12 p13 p14 p15 p16 p17 p18 p19 p20 p21 p22 p23 p24 p25 p26 p27 p28 p29 p30 p31 p32 p33 p34 p35 p36 p37 p38 p39 p40 p41 : Addr} (X : K.In h) (G : h.Ns mainGlobals mg)
    {od0 an0 : Option Addr} {sl0 : Array (Option Value)} {oc0 kV0 dc0 pm0 cd0 ct0 : Value}
    {od1 an1 : Option Addr} {sl1 : Array (Option Value)} {oc1 kV1 dc1 pm1 cd1 ct1 : Value}
    {od2 an2 : Option Addr} {sl2 : Array (Option Value)} {oc2 kV2 dc2 pm2 cd2 ct2 : Value}
    {od3 an3 : Option Addr} {sl3 : Array (Option Value)} {oc3 kV3 dc3 pm3 cd3 ct3 : Value}
    {od4 an4 : Option Addr} {sl4 : Array (Option Value)} {oc4 kV4 dc4 pm4 cd4 ct4 : Value}
    {od5 an5 : Option Addr} {sl5 : Array (Option Value)} {oc5 kV5 dc5 pm5 cd5 ct5 : Value}
    {od6 an6 : Option Addr} {sl6 : Array (Option Value)} {oc6 kV6 dc6 pm6 cd6 ct6 : Value}
    {od7 an7 : Option Addr} {sl7 : Array (Option Value)} {oc7 kV7 dc7 pm7 cd7 ct7 : Value}
    {od8 an8 : Option Addr} {sl8 : Array (Option Value)} {oc8 kV8 dc8 pm8 cd8 ct8 : Value}
    {od9 an9 : Option Addr} {sl9 : Array (Option Value)} {oc9 kV9 dc9 pm9 cd9 ct9 : Value}
    {od10 an10 : Option Addr} {sl10 : Array (Option Value)} {oc10 kV10 dc10 pm10 cd10 ct10 : Value}
    {od11 an11 : Option Addr} {sl11 : Array (Option Value)} {oc11 kV11 dc11 pm11 cd11 ct11 : Value}
    {od12 an12 : Option Addr} {sl12 : Array (Option Value)} {oc12 kV12 dc12 pm12 cd12 ct12 : Value}
    {od13 an13 : Option Addr} {sl13 : Array (Option Value)} {oc13 kV13 dc13 pm13 cd13 ct13 : Value}
    {od14 an14 : Option Addr} {sl14 : Array (Option Value)} {oc14 kV14 dc14 pm14 cd14 ct14 : Value}
    {od15 an15 : Option Addr} {sl15 : Array (Option Value)} {oc15 kV15 dc15 pm15 cd15 ct15 : Value}
    {od16 an16 : Option Addr} {sl16 : Array (Option Value)} {oc16 kV16 dc16 pm16 cd16 ct16 : Value}
    {od17 an17 : Option Addr} {sl17 : Array (Option Value)} {oc17 kV17 dc17 pm17 cd17 ct17 : Value}
    {od18 an18 : Option Addr} {sl18 : Array (Option Value)} {oc18 kV18 dc18 pm18 cd18 ct18 : Value}
    {od19 an19 : Option Addr} {sl19 : Array (Option Value)} {oc19 kV19 dc19 pm19 cd19 ct19 : Value}
    {od20 an20 : Option Addr} {sl20 : Array (Option Value)} {oc20 kV20 dc20 pm20 cd20 ct20 : Value}
    {od21 an21 : Option Addr} {sl21 : Array (Option Value)} {oc21 kV21 dc21 pm21 cd21 ct21 : Value}
    {od22 an22 : Option Addr} {sl22 : Array (Option Value)} {oc22 kV22 dc22 pm22 cd22 ct22 : Value}
    {od23 an23 : Option Addr} {sl23 : Array (Option Value)} {oc23 kV23 dc23 pm23 cd23 ct23 : Value}
    {od24 an24 : Option Addr} {sl24 : Array (Option Value)} {oc24 kV24 dc24 pm24 cd24 ct24 : Value}
    {od25 an25 : Option Addr} {sl25 : Array (Option Value)} {oc25 kV25 dc25 pm25 cd25 ct25 : Value}
    {od26 an26 : Option Addr} {sl26 : Array (Option Value)} {oc26 kV26 dc26 pm26 cd26 ct26 : Value}
    {od27 an27 : Option Addr} {sl27 : Array (Option Value)} {oc27 kV27 dc27 pm27 cd27 ct27 : Value}
    {od28 an28 : Option Addr} {sl28 : Array (Option Value)} {oc28 kV28 dc28 pm28 cd28 ct28 : Value}
    {od29 an29 : Option Addr} {sl29 : Array (Option Value)} {oc29 kV29 dc29 pm29 cd29 ct29 : Value}
    {od30 an30 : Option Addr} {sl30 : Array (Option Value)} {oc30 kV30 dc30 pm30 cd30 ct30 : Value}
    {od31 an31 : Option Addr} {sl31 : Array (Option Value)} {oc31 kV31 dc31 pm31 cd31 ct31 : Value}
    {od32 an32 : Option Addr} {sl32 : Array (Option Value)} {oc32 kV32 dc32 pm32 cd32 ct32 : Value}
    {od33 an33 : Option Addr} {sl33 : Array (Option Value)} {oc33 kV33 dc33 pm33 cd33 ct33 : Value}
    {od34 an34 : Option Addr} {sl34 : Array (Option Value)} {oc34 kV34 dc34 pm34 cd34 ct34 : Value}
    {od35 an35 : Option Addr} {sl35 : Array (Option Value)} {oc35 kV35 dc35 pm35 cd35 ct35 : Value}
    {od36 an36 : Option Addr} {sl36 : Array (Option Value)} {oc36 kV36 dc36 pm36 cd36 ct36 : Value}
    {od37 an37 : Option Addr} {sl37 : Array (Option Value)} {oc37 kV37 dc37 pm37 cd37 ct37 : Value}
    {pa_HEIGHTS : Addr} {es_HEIGHTS : Array DictEntry} {nn_HEIGHTS : Nat} {tk_HEIGHTS_0 tk_HEIGHTS_1 tk_HEIGHTS_2 : Tok}
    {tk_LETTERS : Tok}
    {tk_MARKS : Tok}
    {tk_MOST_DEEP : Tok}
    {tk_MOST_LINES : Tok}
    {pa_WORDS : Addr} {dd_WORDS : Option Addr} {nn_WORDS : Nat} {ss_WORDS : Array (Option Value)} {tk_WORDS_0 tk_WORDS_1 tk_WORDS_2 tk_WORDS_3 tk_WORDS_4 tk_WORDS_5 tk_WORDS_6 tk_WORDS_7 tk_WORDS_8 tk_WORDS_9 tk_WORDS_10 : Tok}
    {pi_BadText pc_BadText pq_BadText : Addr} {od_BadText an_BadText cdd_BadText cld_BadText : Option Addr} {sl_BadText ccs_BadText csl_BadText : Array (Option Value)} {oc_BadText kV_BadText dc_BadText pm_BadText ct_BadText ccl_BadText cl_BadText : Value} {vs_BadText : Array Value} {file_BadText : Str} {tf_BadText : Tok}
    {nm_BadText q_BadText : Str} {N_BadText : Addr} {bs_BadText bm_BadText sub_BadText : List Value} {sn_BadText : List Str} {ab_BadText : Bool} {col_BadText : Option Bool} {dd_BadText : Option Addr} {k0_BadText k1_BadText k2_BadText k3_BadText k5_BadText : Option Value}
    {pi_BadThing pc_BadThing pq_BadThing : Addr} {od_BadThing an_BadThing cdd_BadThing cld_BadThing : Option Addr} {sl_BadThing ccs_BadThing csl_BadThing : Array (Option Value)} {oc_BadThing kV_BadThing dc_BadThing pm_BadThing ct_BadThing ccl_BadThing cl_BadThing : Value} {vs_BadThing : Array Value} {file_BadThing : Str} {tf_BadThing : Tok}
    {nm_BadThing q_BadThing : Str} {N_BadThing : Addr} {bs_BadThing bm_BadThing sub_BadThing : List Value} {sn_BadThing : List Str} {ab_BadThing : Bool} {col_BadThing : Option Bool} {dd_BadThing : Option Addr} {k0_BadThing k1_BadThing k2_BadThing k3_BadThing k5_BadThing : Option Value}
    (qc_GuardError : PySem.W.nsIn K mainGlobals "GuardError" = some (some (.ref p38)))
    (qc_BadThing : PySem.W.nsIn K mainGlobals "BadThing" = some (some (.ref p39)))
    (qc_BadText : PySem.W.nsIn K mainGlobals "BadText" = some (some (.ref p40)))
    (qc_Signs : PySem.W.nsIn K mainGlobals "Signs" = some (some (.ref p41)))
    (qg__law_bent_text : PySem.W.nsIn K mainGlobals "_law_bent_text" = some (some (.ref p26)))
    (qg__law_code : PySem.W.nsIn K mainGlobals "_law_code" = some (some (.ref p27)))
    (qg__law_digits : PySem.W.nsIn K mainGlobals "_law_digits" = some (some (.ref p20)))
    (qg__law_draw : PySem.W.nsIn K mainGlobals "_law_draw" = some (some (.ref p21)))
    (qg__law_is_refused : PySem.W.nsIn K mainGlobals "_law_is_refused" = some (some (.ref p29)))
    (qg__law_like : PySem.W.nsIn K mainGlobals "_law_like" = some (some (.ref p25)))
    (qg__law_pick : PySem.W.nsIn K mainGlobals "_law_pick" = some (some (.ref p22)))
    (qg__law_read : PySem.W.nsIn K mainGlobals "_law_read" = some (some (.ref p28)))
    (qg__law_same : PySem.W.nsIn K mainGlobals "_law_same" = some (some (.ref p23)))
    (qg__law_test : PySem.W.nsIn K mainGlobals "_law_test" = some (some (.ref p24)))
    (qg_bracketed : PySem.W.nsIn K mainGlobals "bracketed" = some (some (.ref p9)))
    (qg_check_code : PySem.W.nsIn K mainGlobals "check_code" = some (some (.ref p16)))
    (qg_check_test : PySem.W.nsIn K mainGlobals "check_test" = some (some (.ref p6)))
    (qg_code_fault : PySem.W.nsIn K mainGlobals "code_fault" = some (some (.ref p14)))
    (qg_format_code : PySem.W.nsIn K mainGlobals "format_code" = some (some (.ref p17)))
    (qg_format_test : PySem.W.nsIn K mainGlobals "format_test" = some (some (.ref p7)))
    (qg_inner_of : PySem.W.nsIn K mainGlobals "inner_of" = some (some (.ref p5)))
    (qg_is_figures : PySem.W.nsIn K mainGlobals "is_figures" = some (some (.ref p2)))
    (qg_is_integer : PySem.W.nsIn K mainGlobals "is_integer" = some (some (.ref p0)))
    (qg_is_line : PySem.W.nsIn K mainGlobals "is_line" = some (some (.ref p15)))
    (qg_is_name : PySem.W.nsIn K mainGlobals "is_name" = some (some (.ref p1)))
    (qg_is_test : PySem.W.nsIn K mainGlobals "is_test" = some (some (.ref p4)))
    (qg_law : PySem.W.nsIn K mainGlobals "law" = some (some (.ref p30)))
    (qg_line_of : PySem.W.nsIn K mainGlobals "line_of" = some (some (.ref p19)))
    (qg_read_and : PySem.W.nsIn K mainGlobals "read_and" = some (some (.ref p12)))
    (qg_read_code : PySem.W.nsIn K mainGlobals "read_code" = some (some (.ref p18)))
    (qg_read_least : PySem.W.nsIn K mainGlobals "read_least" = some (some (.ref p13)))
    (qg_read_or : PySem.W.nsIn K mainGlobals "read_or" = some (some (.ref p11)))
    (qg_read_test : PySem.W.nsIn K mainGlobals "read_test" = some (some (.ref p10)))
    (qg_signs_of : PySem.W.nsIn K mainGlobals "signs_of" = some (some (.ref p3)))
    (qg_written : PySem.W.nsIn K mainGlobals "written" = some (some (.ref p8)))
    (qm_31 : PySem.W.findIn K (.ref p41) "__init__" = some (some (.ref p31)))
    (qm_32 : PySem.W.findIn K (.ref p41) "place" = some (some (.ref p32)))
    (qm_33 : PySem.W.findIn K (.ref p41) "sees" = some (some (.ref p33)))
    (qm_34 : PySem.W.findIn K (.ref p41) "word" = some (some (.ref p34)))
    (qm_35 : PySem.W.findIn K (.ref p41) "take" = some (some (.ref p35)))
    (qm_36 : PySem.W.findIn K (.ref p41) "took" = some (some (.ref p36)))
    (qm_37 : PySem.W.findIn K (.ref p41) "done" = some (some (.ref p37)))
    (ql0 : K.lookup p0 = some ⟨oc0, od0, .func (PySem.W.fnOf "is_integer" "is_integer" (defArgs t_is_integer) (defBody t_is_integer) (defScope t_is_integer) .none kV0 dc0 pm0 an0 cd0 ct0), sl0⟩)
    (qd0 : PySem.W.codeIn K cd0 "is_integer" = true)
    (qk0 : PySem.W.keepIn K (.ref p0) = true)
    (ql1 : K.lookup p1 = some ⟨oc1, od1, .func (PySem.W.fnOf "is_name" "is_name" (defArgs t_is_name) (defBody t_is_name) (defScope t_is_name) .none kV1 dc1 pm1 an1 cd1 ct1), sl1⟩)
    (qd1 : PySem.W.codeIn K cd1 "is_name" = true)
    (qk1 : PySem.W.keepIn K (.ref p1) = true)
    (ql2 : K.lookup p2 = some ⟨oc2, od2, .func (PySem.W.fnOf "is_figures" "is_figures" (defArgs t_is_figures) (defBody t_is_figures) (defScope t_is_figures) .none kV2 dc2 pm2 an2 cd2 ct2), sl2⟩)
    (qd2 : PySem.W.codeIn K cd2 "is_figures" = true)
    (qk2 : PySem.W.keepIn K (.ref p2) = true)
    (ql3 : K.lookup p3 = some ⟨oc3, od3, .func (PySem.W.fnOf "signs_of" "signs_of" (defArgs t_signs_of) (defBody t_signs_of) (defScope t_signs_of) .none kV3 dc3 pm3 an3 cd3 ct3), sl3⟩)
    (qd3 : PySem.W.codeIn K cd3 "signs_of" = true)
    (qk3 : PySem.W.keepIn K (.ref p3) = true)
    (ql4 : K.lookup p4 = some ⟨oc4, od4, .func (PySem.W.fnOf "is_test" "is_test" (defArgs t_is_test) (defBody t_is_test) (defScope t_is_test) .none kV4 dc4 pm4 an4 cd4 ct4), sl4⟩)
    (qd4 : PySem.W.codeIn K cd4 "is_test" = true)
    (qk4 : PySem.W.keepIn K (.ref p4) = true)
    (ql5 : K.lookup p5 = some ⟨oc5, od5, .func (PySem.W.fnOf "inner_of" "inner_of" (defArgs t_inner_of) (defBody t_inner_of) (defScope t_inner_of) .none kV5 dc5 pm5 an5 cd5 ct5), sl5⟩)
    (qd5 : PySem.W.codeIn K cd5 "inner_of" = true)
    (qk5 : PySem.W.keepIn K (.ref p5) = true)
    (ql6 : K.lookup p6 = some ⟨oc6, od6, .func (PySem.W.fnOf "check_test" "check_test" (defArgs t_check_test) (defBody t_check_test) (defScope t_check_test) .none kV6 dc6 pm6 an6 cd6 ct6), sl6⟩)
    (qd6 : PySem.W.codeIn K cd6 "check_test" = true)
    (qk6 : PySem.W.keepIn K (.ref p6) = true)
    (ql7 : K.lookup p7 = some ⟨oc7, od7, .func (PySem.W.fnOf "format_test" "format_test" (defArgs t_format_test) (defBody t_format_test) (defScope t_format_test) .none kV7 dc7 pm7 an7 cd7 ct7), sl7⟩)
    (qd7 : PySem.W.codeIn K cd7 "format_test" = true)
    (qk7 : PySem.W.keepIn K (.ref p7) = true)
    (ql8 : K.lookup p8 = some ⟨oc8, od8, .func (PySem.W.fnOf "written" "written" (defArgs t_written) (defBody t_written) (defScope t_written) .none kV8 dc8 pm8 an8 cd8 ct8), sl8⟩)
    (qd8 : PySem.W.codeIn K cd8 "written" = true)
    (qk8 : PySem.W.keepIn K (.ref p8) = true)
    (ql9 : K.lookup p9 = some ⟨oc9, od9, .func (PySem.W.fnOf "bracketed" "bracketed" (defArgs t_bracketed) (defBody t_bracketed) (defScope t_bracketed) .none kV9 dc9 pm9 an9 cd9 ct9), sl9⟩)
    (qd9 : PySem.W.codeIn K cd9 "bracketed" = true)
    (qk9 : PySem.W.keepIn K (.ref p9) = true)
    (ql10 : K.lookup p10 = some ⟨oc10, od10, .func (PySem.W.fnOf "read_test" "read_test" (defArgs t_read_test) (defBody t_read_test) (defScope t_read_test) .none kV10 dc10 pm10 an10 cd10 ct10), sl10⟩)
    (qd10 : PySem.W.codeIn K cd10 "read_test" = true)
    (qk10 : PySem.W.keepIn K (.ref p10) = true)
    (ql11 : K.lookup p11 = some ⟨oc11, od11, .func (PySem.W.fnOf "read_or" "read_or" (defArgs t_read_or) (defBody t_read_or) (defScope t_read_or) .none kV11 dc11 pm11 an11 cd11 ct11), sl11⟩)
    (qd11 : PySem.W.codeIn K cd11 "read_or" = true)
    (qk11 : PySem.W.keepIn K (.ref p11) = true)
    (ql12 : K.lookup p12 = some ⟨oc12, od12, .func (PySem.W.fnOf "read_and" "read_and" (defArgs t_read_and) (defBody t_read_and) (defScope t_read_and) .none kV12 dc12 pm12 an12 cd12 ct12), sl12⟩)
    (qd12 : PySem.W.codeIn K cd12 "read_and" = true)
    (qk12 : PySem.W.keepIn K (.ref p12) = true)
    (ql13 : K.lookup p13 = some ⟨oc13, od13, .func (PySem.W.fnOf "read_least" "read_least" (defArgs t_read_least) (defBody t_read_least) (defScope t_read_least) .none kV13 dc13 pm13 an13 cd13 ct13), sl13⟩)
    (qd13 : PySem.W.codeIn K cd13 "read_least" = true)
    (qk13 : PySem.W.keepIn K (.ref p13) = true)
    (ql14 : K.lookup p14 = some ⟨oc14, od14, .func (PySem.W.fnOf "code_fault" "code_fault" (defArgs t_code_fault) (defBody t_code_fault) (defScope t_code_fault) .none kV14 dc14 pm14 an14 cd14 ct14), sl14⟩)
    (qd14 : PySem.W.codeIn K cd14 "code_fault" = true)
    (qk14 : PySem.W.keepIn K (.ref p14) = true)
    (ql15 : K.lookup p15 = some ⟨oc15, od15, .func (PySem.W.fnOf "is_line" "is_line" (defArgs t_is_line) (defBody t_is_line) (defScope t_is_line) .none kV15 dc15 pm15 an15 cd15 ct15), sl15⟩)
    (qd15 : PySem.W.codeIn K cd15 "is_line" = true)
    (qk15 : PySem.W.keepIn K (.ref p15) = true)
    (ql16 : K.lookup p16 = some ⟨oc16, od16, .func (PySem.W.fnOf "check_code" "check_code" (defArgs t_check_code) (defBody t_check_code) (defScope t_check_code) .none kV16 dc16 pm16 an16 cd16 ct16), sl16⟩)
    (qd16 : PySem.W.codeIn K cd16 "check_code" = true)
    (qk16 : PySem.W.keepIn K (.ref p16) = true)
    (ql17 : K.lookup p17 = some ⟨oc17, od17, .func (PySem.W.fnOf "format_code" "format_code" (defArgs t_format_code) (defBody t_format_code) (defScope t_format_code) .none kV17 dc17 pm17 an17 cd17 ct17), sl17⟩)
    (qd17 : PySem.W.codeIn K cd17 "format_code" = true)
    (qk17 : PySem.W.keepIn K (.ref p17) = true)
    (ql18 : K.lookup p18 = some ⟨oc18, od18, .func (PySem.W.fnOf "read_code" "read_code" (defArgs t_read_code) (defBody t_read_code) (defScope t_read_code) .none kV18 dc18 pm18 an18 cd18 ct18), sl18⟩)
    (qd18 : PySem.W.codeIn K cd18 "read_code" = true)
    (qk18 : PySem.W.keepIn K (.ref p18) = true)
    (ql19 : K.lookup p19 = some ⟨oc19, od19, .func (PySem.W.fnOf "line_of" "line_of" (defArgs t_line_of) (defBody t_line_of) (defScope t_line_of) .none kV19 dc19 pm19 an19 cd19 ct19), sl19⟩)
    (qd19 : PySem.W.codeIn K cd19 "line_of" = true)
    (qk19 : PySem.W.keepIn K (.ref p19) = true)
    (ql20 : K.lookup p20 = some ⟨oc20, od20, .func (PySem.W.fnOf "_law_digits" "_law_digits" (defArgs t__law_digits) (defBody t__law_digits) (defScope t__law_digits) .none kV20 dc20 pm20 an20 cd20 ct20), sl20⟩)
    (qd20 : PySem.W.codeIn K cd20 "_law_digits" = true)
    (qk20 : PySem.W.keepIn K (.ref p20) = true)
    (ql21 : K.lookup p21 = some ⟨oc21, od21, .func (PySem.W.fnOf "_law_draw" "_law_draw" (defArgs t__law_draw) (defBody t__law_draw) (defScope t__law_draw) .none kV21 dc21 pm21 an21 cd21 ct21), sl21⟩)
    (qd21 : PySem.W.codeIn K cd21 "_law_draw" = true)
    (qk21 : PySem.W.keepIn K (.ref p21) = true)
    (ql22 : K.lookup p22 = some ⟨oc22, od22, .func (PySem.W.fnOf "_law_pick" "_law_pick" (defArgs t__law_pick) (defBody t__law_pick) (defScope t__law_pick) .none kV22 dc22 pm22 an22 cd22 ct22), sl22⟩)
    (qd22 : PySem.W.codeIn K cd22 "_law_pick" = true)
    (qk22 : PySem.W.keepIn K (.ref p22) = true)
    (ql23 : K.lookup p23 = some ⟨oc23, od23, .func (PySem.W.fnOf "_law_same" "_law_same" (defArgs t__law_same) (defBody t__law_same) (defScope t__law_same) .none kV23 dc23 pm23 an23 cd23 ct23), sl23⟩)
    (qd23 : PySem.W.codeIn K cd23 "_law_same" = true)
    (qk23 : PySem.W.keepIn K (.ref p23) = true)
    (ql24 : K.lookup p24 = some ⟨oc24, od24, .func (PySem.W.fnOf "_law_test" "_law_test" (defArgs t__law_test) (defBody t__law_test) (defScope t__law_test) .none kV24 dc24 pm24 an24 cd24 ct24), sl24⟩)
    (qd24 : PySem.W.codeIn K cd24 "_law_test" = true)
    (qk24 : PySem.W.keepIn K (.ref p24) = true)
    (ql25 : K.lookup p25 = some ⟨oc25, od25, .func (PySem.W.fnOf "_law_like" "_law_like" (defArgs t__law_like) (defBody t__law_like) (defScope t__law_like) .none kV25 dc25 pm25 an25 cd25 ct25), sl25⟩)
    (qd25 : PySem.W.codeIn K cd25 "_law_like" = true)
    (qk25 : PySem.W.keepIn K (.ref p25) = true)
    (ql26 : K.lookup p26 = some ⟨oc26, od26, .func (PySem.W.fnOf "_law_bent_text" "_law_bent_text" (defArgs t__law_bent_text) (defBody t__law_bent_text) (defScope t__law_bent_text) .none kV26 dc26 pm26 an26 cd26 ct26), sl26⟩)
    (qd26 : PySem.W.codeIn K cd26 "_law_bent_text" = true)
    (qk26 : PySem.W.keepIn K (.ref p26) = true)
    (ql27 : K.lookup p27 = some ⟨oc27, od27, .func (PySem.W.fnOf "_law_code" "_law_code" (defArgs t__law_code) (defBody t__law_code) (defScope t__law_code) .none kV27 dc27 pm27 an27 cd27 ct27), sl27⟩)
    (qd27 : PySem.W.codeIn K cd27 "_law_code" = true)
    (qk27 : PySem.W.keepIn K (.ref p27) = true)
    (ql28 : K.lookup p28 = some ⟨oc28, od28, .func (PySem.W.fnOf "_law_read" "_law_read" (defArgs t__law_read) (defBody t__law_read) (defScope t__law_read) .none kV28 dc28 pm28 an28 cd28 ct28), sl28⟩)
    (qd28 : PySem.W.codeIn K cd28 "_law_read" = true)
    (qk28 : PySem.W.keepIn K (.ref p28) = true)
    (ql29 : K.lookup p29 = some ⟨oc29, od29, .func (PySem.W.fnOf "_law_is_refused" "_law_is_refused" (defArgs t__law_is_refused) (defBody t__law_is_refused) (defScope t__law_is_refused) .none kV29 dc29 pm29 an29 cd29 ct29), sl29⟩)
    (qd29 : PySem.W.codeIn K cd29 "_law_is_refused" = true)
    (qk29 : PySem.W.keepIn K (.ref p29) = true)
    (ql30 : K.lookup p30 = some ⟨oc30, od30, .func (PySem.W.fnOf "law" "law" (defArgs t_law) (defBody t_law) (defScope t_law) .none kV30 dc30 pm30 an30 cd30 ct30), sl30⟩)
    (qd30 : PySem.W.codeIn K cd30 "law" = true)
    (qk30 : PySem.W.keepIn K (.ref p30) = true)
    (ql31 : K.lookup p31 = some ⟨oc31, od31, .func (PySem.W.fnOf "__init__" "Signs.__init__" (defArgs t_Signs___init__) (defBody t_Signs___init__) (defScope t_Signs___init__) .none kV31 dc31 pm31 an31 cd31 ct31), sl31⟩)
    (qd31 : PySem.W.codeIn K cd31 "Signs.__init__" = true)
    (qk31 : PySem.W.keepIn K (.ref p31) = true)
    (ql32 : K.lookup p32 = some ⟨oc32, od32, .func (PySem.W.fnOf "place" "Signs.place" (defArgs t_Signs_place) (defBody t_Signs_place) (defScope t_Signs_place) .none kV32 dc32 pm32 an32 cd32 ct32), sl32⟩)
    (qd32 : PySem.W.codeIn K cd32 "Signs.place" = true)
    (qk32 : PySem.W.keepIn K (.ref p32) = true)
    (ql33 : K.lookup p33 = some ⟨oc33, od33, .func (PySem.W.fnOf "sees" "Signs.sees" (defArgs t_Signs_sees) (defBody t_Signs_sees) (defScope t_Signs_sees) .none kV33 dc33 pm33 an33 cd33 ct33), sl33⟩)
    (qd33 : PySem.W.codeIn K cd33 "Signs.sees" = true)
    (qk33 : PySem.W.keepIn K (.ref p33) = true)
    (ql34 : K.lookup p34 = some ⟨oc34, od34, .func (PySem.W.fnOf "word" "Signs.word" (defArgs t_Signs_word) (defBody t_Signs_word) (defScope t_Signs_word) .none kV34 dc34 pm34 an34 cd34 ct34), sl34⟩)
    (qd34 : PySem.W.codeIn K cd34 "Signs.word" = true)
    (qk34 : PySem.W.keepIn K (.ref p34) = true)
    (ql35 : K.lookup p35 = some ⟨oc35, od35, .func (PySem.W.fnOf "take" "Signs.take" (defArgs t_Signs_take) (defBody t_Signs_take) (defScope t_Signs_take) .none kV35 dc35 pm35 an35 cd35 ct35), sl35⟩)
    (qd35 : PySem.W.codeIn K cd35 "Signs.take" = true)
    (qk35 : PySem.W.keepIn K (.ref p35) = true)
    (ql36 : K.lookup p36 = some ⟨oc36, od36, .func (PySem.W.fnOf "took" "Signs.took" (defArgs t_Signs_took) (defBody t_Signs_took) (defScope t_Signs_took) .none kV36 dc36 pm36 an36 cd36 ct36), sl36⟩)
    (qd36 : PySem.W.codeIn K cd36 "Signs.took" = true)
    (qk36 : PySem.W.keepIn K (.ref p36) = true)
    (ql37 : K.lookup p37 = some ⟨oc37, od37, .func (PySem.W.fnOf "done" "Signs.done" (defArgs t_Signs_done) (defBody t_Signs_done) (defScope t_Signs_done) .none kV37 dc37 pm37 an37 cd37 ct37), sl37⟩)
    (qd37 : PySem.W.codeIn K cd37 "Signs.done" = true)
    (qk37 : PySem.W.keepIn K (.ref p37) = true)
    (qn_all : PySem.W.nsIn K mainGlobals "all" = some none)
    (qn_bool : PySem.W.nsIn K mainGlobals "bool" = some none)
    (qn_enumerate : PySem.W.nsIn K mainGlobals "enumerate" = some none)
    (qn_int : PySem.W.nsIn K mainGlobals "int" = some none)
    (qn_isinstance : PySem.W.nsIn K mainGlobals "isinstance" = some none)
    (qn_len : PySem.W.nsIn K mainGlobals "len" = some none)
    (qn_list : PySem.W.nsIn K mainGlobals "list" = some none)
    (qn_range : PySem.W.nsIn K mainGlobals "range" = some none)
    (qn_repr : PySem.W.nsIn K mainGlobals "repr" = some none)
    (qn_str : PySem.W.nsIn K mainGlobals "str" = some none)
    (qn_tuple : PySem.W.nsIn K mainGlobals "tuple" = some none)
    (qv_HEIGHTS : PySem.W.nsIn K mainGlobals "HEIGHTS" = some (some (.ref pa_HEIGHTS)))
    (qw_HEIGHTS : K.lookup pa_HEIGHTS = some ⟨.type "dict", none, .dict es_HEIGHTS nn_HEIGHTS, #[]⟩)
    (qy_HEIGHTS : PySem.W.KeysLit w.params es_HEIGHTS.toList)
    (qz_HEIGHTS_0 : PySem.W.nsIn K pa_HEIGHTS "or" = some (some (.int 0 tk_HEIGHTS_0)))
    (qz_HEIGHTS_1 : PySem.W.nsIn K pa_HEIGHTS "and" = some (some (.int 1 tk_HEIGHTS_1)))
    (qz_HEIGHTS_2 : PySem.W.nsIn K pa_HEIGHTS "not" = some (some (.int 2 tk_HEIGHTS_2)))
    (qv_LETTERS : PySem.W.nsIn K mainGlobals "LETTERS" = some (some (.str "abcdefghijklmnopqrstuvwxyz" tk_LETTERS)))
    (qv_MARKS : PySem.W.nsIn K mainGlobals "MARKS" = some (some (.str "!&|(){};+.*[]01" tk_MARKS)))
    (qv_MOST_DEEP : PySem.W.nsIn K mainGlobals "MOST_DEEP" = some (some (.int 10 tk_MOST_DEEP)))
    (qv_MOST_LINES : PySem.W.nsIn K mainGlobals "MOST_LINES" = some (some (.int 80 tk_MOST_LINES)))
    (qv_WORDS : PySem.W.nsIn K mainGlobals "WORDS" = some (some (.ref pa_WORDS)))
    (qw_WORDS : K.lookup pa_WORDS = some ⟨.type "tuple", dd_WORDS, .seq #[.str "skip" tk_WORDS_0, .str "stop" tk_WORDS_1, .str "assume" tk_WORDS_2, .str "if" tk_WORDS_3, .str "else" tk_WORDS_4, .str "while" tk_WORDS_5, .str "choose" tk_WORDS_6, .str "or" tk_WORDS_7, .str "loop" tk_WORDS_8, .str "yes" tk_WORDS_9, .str "no" tk_WORDS_10] nn_WORDS, ss_WORDS⟩)
    (qp_Signs : PySem.W.plainGet K p41 Str.empty = true)
    (qh_Signs : PySem.W.hasDictIn K p41 = true)
    (qo_Signs : PySem.W.plainOver K p41 = true)
    (qs_Signs : PySem.W.findIn K (.ref p41) "__setattr__" = some (some (.builtin "object.__setattr__")))
    (qf_31 : PySem.W.isFn K (.ref p31) = true)
    (qf_32 : PySem.W.isFn K (.ref p32) = true)
    (qf_33 : PySem.W.isFn K (.ref p33) = true)
    (qf_34 : PySem.W.isFn K (.ref p34) = true)
    (qf_35 : PySem.W.isFn K (.ref p35) = true)
    (qf_36 : PySem.W.isFn K (.ref p36) = true)
    (qf_37 : PySem.W.isFn K (.ref p37) = true)
    (qM_Signs : PySem.W.makesIn K p41 = true)
    (qK_Signs : PySem.W.keepIn K (.ref p41) = true)
    (qa_Signs_at : PySem.W.findIn K (.ref p41) "at" = some none)
    (qa_Signs_end : PySem.W.findIn K (.ref p41) "end" = some none)
    (qa_Signs_rows : PySem.W.findIn K (.ref p41) "rows" = some none)
    (qsup : PySem.W.nsIn K mainGlobals "super" = some none)
    (qopq : PySem.W.nsIn K PySem.cStatics "thirdparty.any" = some none)
    (qx_BadText_place : PySem.W.findIn K (.ref p40) "place" = some none)
    (qx_BadThing_reason : PySem.W.findIn K (.ref p39) "reason" = some none)
    (qe_BadText : PySem.W.subIn K (.ref p40) (.type "BaseException") = some true)
    (qe_BadThing : PySem.W.subIn K (.ref p39) (.type "BaseException") = some true)
    (qxa_BadText : PySem.W.findIn K (.ref p40) "__getattribute__" = some (some (.builtin "BaseException.__getattribute__")))
    (qxb_BadText : PySem.W.findIn K (.ref p40) "__getattr__" = some none)
    (qxc_BadText : PySem.W.hasDictIn K p40 = true)
    (qxa_BadThing : PySem.W.findIn K (.ref p39) "__getattribute__" = some (some (.builtin "BaseException.__getattribute__")))
    (qxb_BadThing : PySem.W.findIn K (.ref p39) "__getattr__" = some none)
    (qxc_BadThing : PySem.W.hasDictIn K p39 = true)
    (qi_BadText : PySem.W.findIn K (.ref p40) "__init__" = some (some (.ref pi_BadText)))
    (qj_BadText : K.lookup pi_BadText = some ⟨oc_BadText, od_BadText, .func (PySem.W.ksFn "__init__" "BadText.__init__" (defArgs t_BadText___init__) (defBody t_BadText___init__) (defScope t_BadText___init__) .none kV_BadText dc_BadText pm_BadText an_BadText (.ref pq_BadText) ct_BadText pc_BadText), sl_BadText⟩)
    (qcd_BadText : PySem.W.codeIn K (.ref pq_BadText) "BadText.__init__" = true)
    (qce_BadText : K.lookup pq_BadText = some ⟨ccl_BadText, cdd_BadText, .fields vs_BadText, ccs_BadText⟩)
    (qcf_BadText : vs_BadText[2]? = some (.str file_BadText tf_BadText))
    (qcg_BadText : ((prog.main.file : Str) == file_BadText) = true)
    (qch_BadText : K.lookup pc_BadText = some ⟨cl_BadText, cld_BadText, .cell (some (.ref p40)), csl_BadText⟩)
    (qci_BadText : PySem.W.ks_superIn K p40 p40 "__init__" = some (some (.builtin "ValueError.__init__")))
    (qcj_BadText : PySem.W.subIn K (.ref p40) (.type "ValueError") = some true)
    (qck_BadText : PySem.W.mroIn K p40 (.ref p40) = some true)
    (qcl_BadText : K.lookup p40 = some (excClassObj nm_BadText q_BadText p40 N_BadText bs_BadText bm_BadText true sn_BadText sub_BadText ab_BadText col_BadText dd_BadText k0_BadText k1_BadText k2_BadText k3_BadText k5_BadText "ValueError.__new__"))
    (qcm_BadText : PySem.HandSPX.refsVE bm_BadText = true)
    (qcn_BadText : PySem.W.findIn K (.ref p40) "__setattr__" = some (some (.builtin "object.__setattr__")))
    (qco_BadText : PySem.W.typeIn K (.ref p40) = some (.type "type"))
    (qcp_BadText : PySem.W.keepIn K (.ref p40) = true)
    (qcq_BadText : PySem.W.typeIn K (.ref pi_BadText) = some (.type "function"))
    (qi_BadThing : PySem.W.findIn K (.ref p39) "__init__" = some (some (.ref pi_BadThing)))
    (qj_BadThing : K.lookup pi_BadThing = some ⟨oc_BadThing, od_BadThing, .func (PySem.W.ksFn "__init__" "BadThing.__init__" (defArgs t_BadThing___init__) (defBody t_BadThing___init__) (defScope t_BadThing___init__) .none kV_BadThing dc_BadThing pm_BadThing an_BadThing (.ref pq_BadThing) ct_BadThing pc_BadThing), sl_BadThing⟩)
    (qcd_BadThing : PySem.W.codeIn K (.ref pq_BadThing) "BadThing.__init__" = true)
    (qce_BadThing : K.lookup pq_BadThing = some ⟨ccl_BadThing, cdd_BadThing, .fields vs_BadThing, ccs_BadThing⟩)
    (qcf_BadThing : vs_BadThing[2]? = some (.str file_BadThing tf_BadThing))
    (qcg_BadThing : ((prog.main.file : Str) == file_BadThing) = true)
    (qch_BadThing : K.lookup pc_BadThing = some ⟨cl_BadThing, cld_BadThing, .cell (some (.ref p39)), csl_BadThing⟩)
    (qci_BadThing : PySem.W.ks_superIn K p39 p39 "__init__" = some (some (.builtin "ValueError.__init__")))
    (qcj_BadThing : PySem.W.subIn K (.ref p39) (.type "ValueError") = some true)
    (qck_BadThing : PySem.W.mroIn K p39 (.ref p39) = some true)
    (qcl_BadThing : K.lookup p39 = some (excClassObj nm_BadThing q_BadThing p39 N_BadThing bs_BadThing bm_BadThing true sn_BadThing sub_BadThing ab_BadThing col_BadThing dd_BadThing k0_BadThing k1_BadThing k2_BadThing k3_BadThing k5_BadThing "ValueError.__new__"))
    (qcm_BadThing : PySem.HandSPX.refsVE bm_BadThing = true)
    (qcn_BadThing : PySem.W.findIn K (.ref p39) "__setattr__" = some (some (.builtin "object.__setattr__")))
    (qco_BadThing : PySem.W.typeIn K (.ref p39) = some (.type "type"))
    (qcp_BadThing : PySem.W.keepIn K (.ref p39) = true)
    (qcq_BadThing : PySem.W.typeIn K (.ref pi_BadThing) = some (.type "function"))
    (qE_BadText_BadText : PySem.W.exmOne K (.ref p40) (.ref p40) = some true)
    (qE_BadText_BadThing : PySem.W.exmOne K (.ref p40) (.ref p39) = some false)
    (qE_BadThing_BadText : PySem.W.exmOne K (.ref p39) (.ref p40) = some false)
    (qE_BadThing_BadThing : PySem.W.exmOne K (.ref p39) (.ref p39) = some true) :
    ∀ base : Heap, Tx (mkTab prog w K mg base [p0, p1, p2, p3, p4, p5, p6, p7, p8, p9, p10, p11, p12, p13, p14, p15, p16, p17, p18, p19, p20, p21, p22, p23, p24, p25, p26, p27, p28, p29, p30, p31, p32, p33, p34, p35, p36, p37, p38, p39, p40, p41]) := fun base => {
  f0 := ⟨_, fun_mk (st := t_is_integer) ql0 qd0 qk0, (fun_mk (st := t_is_integer) ql0 qd0 qk0).binds (ps := ["thing"]) fun _ _ _ _ _ _ us hl => match us, hl with | [_], _ => rfl⟩,
  f1 := ⟨_, fun_mk (st := t_is_name) ql1 qd1 qk1, (fun_mk (st := t_is_name) ql1 qd1 qk1).binds (ps := ["thing"]) fun _ _ _ _ _ _ us hl => match us, hl with | [_], _ => rfl⟩,
  f2 := ⟨_, fun_mk (st := t_is_figures) ql2 qd2 qk2, (fun_mk (st := t_is_figures) ql2 qd2 qk2).binds (ps := ["word"]) fun _ _ _ _ _ _ us hl => match us, hl with | [_], _ => rfl⟩,
  f3 := ⟨_, fun_mk (st := t_signs_of) ql3 qd3 qk3, (fun_mk (st := t_signs_of) ql3 qd3 qk3).binds (ps := ["text"]) fun _ _ _ _ _ _ us hl => match us, hl with | [_], _ => rfl⟩,
  f4 := ⟨_, fun_mk (st := t_is_test) ql4 qd4 qk4, (fun_mk (st := t_is_test) ql4 qd4 qk4).binds (ps := ["thing"]) fun _ _ _ _ _ _ us hl => match us, hl with | [_], _ => rfl⟩,
  f5 := ⟨_, fun_mk (st := t_inner_of) ql5 qd5 qk5, (fun_mk (st := t_inner_of) ql5 qd5 qk5).binds (ps := ["thing"]) fun _ _ _ _ _ _ us hl => match us, hl with | [_], _ => rfl⟩,
  f6 := ⟨_, fun_mk (st := t_check_test) ql6 qd6 qk6, (fun_mk (st := t_check_test) ql6 qd6 qk6).binds (ps := ["test"]) fun _ _ _ _ _ _ us hl => match us, hl with | [_], _ => rfl⟩,
  f7 := ⟨_, fun_mk (st := t_format_test) ql7 qd7 qk7, (fun_mk (st := t_format_test) ql7 qd7 qk7).binds (ps := ["test"]) fun _ _ _ _ _ _ us hl => match us, hl with | [_], _ => rfl⟩,
  f8 := ⟨_, fun_mk (st := t_written) ql8 qd8 qk8, (fun_mk (st := t_written) ql8 qd8 qk8).binds (ps := ["test"]) fun _ _ _ _ _ _ us hl => match us, hl with | [_], _ => rfl⟩,
  f9 := ⟨_, fun_mk (st := t_bracketed) ql9 qd9 qk9, (fun_mk (st := t_bracketed) ql9 qd9 qk9).binds (ps := ["test", "least"]) fun _ _ _ _ _ _ us hl => match us, hl with | [_, _], _ => rfl⟩,
  f10 := ⟨_, fun_mk (st := t_read_test) ql10 qd10 qk10, (fun_mk (st := t_read_test) ql10 qd10 qk10).binds (ps := ["text"]) fun _ _ _ _ _ _ us hl => match us, hl with | [_], _ => rfl⟩,
  f11 := ⟨_, fun_mk (st := t_read_or) ql11 qd11 qk11, (fun_mk (st := t_read_or) ql11 qd11 qk11).binds (ps := ["signs", "deep"]) fun _ _ _ _ _ _ us hl => match us, hl with | [_, _], _ => rfl⟩,
  f12 := ⟨_, fun_mk (st := t_read_and) ql12 qd12 qk12, (fun_mk (st := t_read_and) ql12 qd12 qk12).binds (ps := ["signs", "deep"]) fun _ _ _ _ _ _ us hl => match us, hl with | [_, _], _ => rfl⟩,
  f13 := ⟨_, fun_mk (st := t_read_least) ql13 qd13 qk13, (fun_mk (st := t_read_least) ql13 qd13 qk13).binds (ps := ["signs", "deep"]) fun _ _ _ _ _ _ us hl => match us, hl with | [_, _], _ => rfl⟩,
  f14 := ⟨_, fun_mk (st := t_code_fault) ql14 qd14 qk14, (fun_mk (st := t_code_fault) ql14 qd14 qk14).binds (ps := ["thing"]) fun _ _ _ _ _ _ us hl => match us, hl with | [_], _ => rfl⟩,
  f15 := ⟨_, fun_mk (st := t_is_line) ql15 qd15 qk15, (fun_mk (st := t_is_line) ql15 qd15 qk15).binds (ps := ["thing", "many"]) fun _ _ _ _ _ _ us hl => match us, hl with | [_, _], _ => rfl⟩,
  f16 := ⟨_, fun_mk (st := t_check_code) ql16 qd16 qk16, (fun_mk (st := t_check_code) ql16 qd16 qk16).binds (ps := ["code"]) fun _ _ _ _ _ _ us hl => match us, hl with | [_], _ => rfl⟩,
  f17 := ⟨_, fun_mk (st := t_format_code) ql17 qd17 qk17, (fun_mk (st := t_format_code) ql17 qd17 qk17).binds (ps := ["code"]) fun _ _ _ _ _ _ us hl => match us, hl with | [_], _ => rfl⟩,
  f18 := ⟨_, fun_mk (st := t_read_code) ql18 qd18 qk18, (fun_mk (st := t_read_code) ql18 qd18 qk18).binds (ps := ["text"]) fun _ _ _ _ _ _ us hl => match us, hl with | [_], _ => rfl⟩,
  f19 := ⟨_, fun_mk (st := t_line_of) ql19 qd19 qk19, (fun_mk (st := t_line_of) ql19 qd19 qk19).binds (ps := ["text"]) fun _ _ _ _ _ _ us hl => match us, hl with | [_], _ => rfl⟩,
  f20 := ⟨_, fun_mk (st := t__law_digits) ql20 qd20 qk20, (fun_mk (st := t__law_digits) ql20 qd20 qk20).binds (ps := ["script", "first", "last"]) fun _ _ _ _ _ _ us hl => match us, hl with | [_, _, _], _ => rfl⟩,
  f21 := ⟨_, fun_mk (st := t__law_draw) ql21 qd21 qk21, (fun_mk (st := t__law_draw) ql21 qd21 qk21).binds (ps := ["box", "many"]) fun _ _ _ _ _ _ us hl => match us, hl with | [_, _], _ => rfl⟩,
  f22 := ⟨_, fun_mk (st := t__law_pick) ql22 qd22 qk22, (fun_mk (st := t__law_pick) ql22 qd22 qk22).binds (ps := ["box", "things"]) fun _ _ _ _ _ _ us hl => match us, hl with | [_, _], _ => rfl⟩,
  f23 := ⟨_, fun_mk (st := t__law_same) ql23 qd23 qk23, (fun_mk (st := t__law_same) ql23 qd23 qk23).binds (ps := ["a", "b"]) fun _ _ _ _ _ _ us hl => match us, hl with | [_, _], _ => rfl⟩,
  f24 := ⟨_, fun_mk (st := t__law_test) ql24 qd24 qk24, (fun_mk (st := t__law_test) ql24 qd24 qk24).binds (ps := ["box", "names", "down"]) fun _ _ _ _ _ _ us hl => match us, hl with | [_, _, _], _ => rfl⟩,
  f25 := ⟨_, fun_mk (st := t__law_like) ql25 qd25 qk25, (fun_mk (st := t__law_like) ql25 qd25 qk25).binds (ps := ["told", "due"]) fun _ _ _ _ _ _ us hl => match us, hl with | [_, _], _ => rfl⟩,
  f26 := ⟨_, fun_mk (st := t__law_bent_text) ql26 qd26 qk26, (fun_mk (st := t__law_bent_text) ql26 qd26 qk26).binds (ps := ["box", "text", "signs"]) fun _ _ _ _ _ _ us hl => match us, hl with | [_, _, _], _ => rfl⟩,
  f27 := ⟨_, fun_mk (st := t__law_code) ql27 qd27 qk27, (fun_mk (st := t__law_code) ql27 qd27 qk27).binds (ps := ["box"]) fun _ _ _ _ _ _ us hl => match us, hl with | [_], _ => rfl⟩,
  f28 := ⟨_, fun_mk (st := t__law_read) ql28 qd28 qk28, (fun_mk (st := t__law_read) ql28 qd28 qk28).binds (ps := ["text"]) fun _ _ _ _ _ _ us hl => match us, hl with | [_], _ => rfl⟩,
  f29 := ⟨_, fun_mk (st := t__law_is_refused) ql29 qd29 qk29, (fun_mk (st := t__law_is_refused) ql29 qd29 qk29).binds (ps := ["line"]) fun _ _ _ _ _ _ us hl => match us, hl with | [_], _ => rfl⟩,
  f30 := ⟨_, fun_mk (st := t_law) ql30 qd30 qk30, (fun_mk (st := t_law) ql30 qd30 qk30).binds (ps := ["script"]) fun _ _ _ _ _ _ us hl => match us, hl with | [_], _ => rfl⟩,
  f31 := ⟨_, fun_mk (st := t_Signs___init__) ql31 qd31 qk31, (fun_mk (st := t_Signs___init__) ql31 qd31 qk31).binds (ps := ["self", "text"]) fun _ _ _ _ _ _ us hl => match us, hl with | [_, _], _ => rfl⟩,
  f32 := ⟨_, fun_mk (st := t_Signs_place) ql32 qd32 qk32, (fun_mk (st := t_Signs_place) ql32 qd32 qk32).binds (ps := ["self"]) fun _ _ _ _ _ _ us hl => match us, hl with | [_], _ => rfl⟩,
  f33 := ⟨_, fun_mk (st := t_Signs_sees) ql33 qd33 qk33, (fun_mk (st := t_Signs_sees) ql33 qd33 qk33).binds (ps := ["self", "text"]) fun _ _ _ _ _ _ us hl => match us, hl with | [_, _], _ => rfl⟩,
  f34 := ⟨_, fun_mk (st := t_Signs_word) ql34 qd34 qk34, (fun_mk (st := t_Signs_word) ql34 qd34 qk34).binds (ps := ["self"]) fun _ _ _ _ _ _ us hl => match us, hl with | [_], _ => rfl⟩,
  f35 := ⟨_, fun_mk (st := t_Signs_take) ql35 qd35 qk35, (fun_mk (st := t_Signs_take) ql35 qd35 qk35).binds (ps := ["self", "text"]) fun _ _ _ _ _ _ us hl => match us, hl with | [_, _], _ => rfl⟩,
  f36 := ⟨_, fun_mk (st := t_Signs_took) ql36 qd36 qk36, (fun_mk (st := t_Signs_took) ql36 qd36 qk36).binds (ps := ["self", "text"]) fun _ _ _ _ _ _ us hl => match us, hl with | [_, _], _ => rfl⟩,
  f37 := ⟨_, fun_mk (st := t_Signs_done) ql37 qd37 qk37, (fun_mk (st := t_Signs_done) ql37 qd37 qk37).binds (ps := ["self"]) fun _ _ _ _ _ _ us hl => match us, hl with | [_], _ => rfl⟩,
  g_BadText := PySem.W.mg_of X G qc_BadText,
  g_BadThing := PySem.W.mg_of X G qc_BadThing,
  g_Signs := PySem.W.mg_of X G qc_Signs,
  g__law_bent_text := PySem.W.mg_of X G qg__law_bent_text,
  g__law_code := PySem.W.mg_of X G qg__law_code,
  g__law_digits := PySem.W.mg_of X G qg__law_digits,
  g__law_draw := PySem.W.mg_of X G qg__law_draw,
  g__law_is_refused := PySem.W.mg_of X G qg__law_is_refused,
  g__law_like := PySem.W.mg_of X G qg__law_like,
  g__law_pick := PySem.W.mg_of X G qg__law_pick,
  g__law_read := PySem.W.mg_of X G qg__law_read,
  g__law_same := PySem.W.mg_of X G qg__law_same,
  g__law_test := PySem.W.mg_of X G qg__law_test,
  g_bracketed := PySem.W.mg_of X G qg_bracketed,
  g_check_code := PySem.W.mg_of X G qg_check_code,
  g_check_test := PySem.W.mg_of X G qg_check_test,
  g_code_fault := PySem.W.mg_of X G qg_code_fault,
  g_format_code := PySem.W.mg_of X G qg_format_code,
  g_format_test := PySem.W.mg_of X G qg_format_test,
  g_inner_of := PySem.W.mg_of X G qg_inner_of,
  g_is_figures := PySem.W.mg_of X G qg_is_figures,
  g_is_integer := PySem.W.mg_of X G qg_is_integer,
  g_is_line := PySem.W.mg_of X G qg_is_line,
  g_is_name := PySem.W.mg_of X G qg_is_name,
  g_is_test := PySem.W.mg_of X G qg_is_test,
  g_line_of := PySem.W.mg_of X G qg_line_of,
  g_read_and := PySem.W.mg_of X G qg_read_and,
  g_read_code := PySem.W.mg_of X G qg_read_code,
  g_read_least := PySem.W.mg_of X G qg_read_least,
  g_read_or := PySem.W.mg_of X G qg_read_or,
  g_read_test := PySem.W.mg_of X G qg_read_test,
  g_signs_of := PySem.W.mg_of X G qg_signs_of,
  g_written := PySem.W.mg_of X G qg_written,
  n_all := PySem.W.mg_none_of X G qn_all,
  n_bool := PySem.W.mg_none_of X G qn_bool,
  n_enumerate := PySem.W.mg_none_of X G qn_enumerate,
  n_int := PySem.W.mg_none_of X G qn_int,
  n_isinstance := PySem.W.mg_none_of X G qn_isinstance,
  n_len := PySem.W.mg_none_of X G qn_len,
  n_list := PySem.W.mg_none_of X G qn_list,
  n_range := PySem.W.mg_none_of X G qn_range,
  n_repr := PySem.W.mg_none_of X G qn_repr,
  n_str := PySem.W.mg_none_of X G qn_str,
  n_tuple := PySem.W.mg_none_of X G qn_tuple,
  kd_HEIGHTS := ⟨⟨pa_HEIGHTS, es_HEIGHTS, nn_HEIGHTS, PySem.W.mg_of X G qv_HEIGHTS, qw_HEIGHTS, qy_HEIGHTS, fun p hp => by
      simp only [k_HEIGHTS, List.mem_cons, List.not_mem_nil, or_false] at hp
      rcases hp with rfl | rfl | rfl
      · exact ⟨_, by rw [← xz_or]; exact qz_HEIGHTS_0, .int _ _⟩
      · exact ⟨_, by rw [← xz_and]; exact qz_HEIGHTS_1, .int _ _⟩
      · exact ⟨_, by rw [← xz_not]; exact qz_HEIGHTS_2, .int _ _⟩⟩⟩,
  c_LETTERS := gc_str (by rw [← xz_abcdefghijklmnopqrstuvwx]; exact PySem.W.mg_of X G qv_LETTERS) oz_abcdefghijklmnopqrstuvwx,
  c_MARKS := gc_str (by rw [← xz______________01]; exact PySem.W.mg_of X G qv_MARKS) oz______________01,
  c_MOST_DEEP := gc_int (PySem.W.mg_of X G qv_MOST_DEEP),
  c_MOST_LINES := gc_int (PySem.W.mg_of X G qv_MOST_LINES),
  c_WORDS := gc_tup (us := [.str "skip" tk_WORDS_0, .str "stop" tk_WORDS_1, .str "assume" tk_WORDS_2, .str "if" tk_WORDS_3, .str "else" tk_WORDS_4, .str "while" tk_WORDS_5, .str "choose" tk_WORDS_6, .str "or" tk_WORDS_7, .str "loop" tk_WORDS_8, .str "yes" tk_WORDS_9, .str "no" tk_WORDS_10]) (PySem.W.mg_of X G qv_WORDS) qw_WORDS (by simp) (.cons (by rw [xz_skip]; exact .str z_skip _ oz_skip) (.cons (by rw [xz_stop]; exact .str z_stop _ oz_stop) (.cons (by rw [xz_assume]; exact .str z_assume _ oz_assume) (.cons (by rw [xz_if]; exact .str z_if _ oz_if) (.cons (by rw [xz_else]; exact .str z_else _ oz_else) (.cons (by rw [xz_while]; exact .str z_while _ oz_while) (.cons (by rw [xz_choose]; exact .str z_choose _ oz_choose) (.cons (by rw [xz_or]; exact .str z_or _ oz_or) (.cons (by rw [xz_loop]; exact .str z_loop _ oz_loop) (.cons (by rw [xz_yes]; exact .str z_yes _ oz_yes) (.cons (by rw [xz_no]; exact .str z_no _ oz_no) .nil))))))))))),
  a0 := rfl,
  a1 := rfl,
  a2 := rfl,
  a3 := rfl,
  a4 := rfl,
  a5 := rfl,
  a6 := rfl,
  a7 := rfl,
  a8 := rfl,
  a9 := rfl,
  cl_Signs := ⟨qp_Signs, qh_Signs, qo_Signs, qs_Signs⟩,
  mk_Signs := ⟨qM_Signs, qm_31, qf_31, qK_Signs⟩,
  me_Signs_done := ⟨qm_37, qf_37, qk37⟩,
  me_Signs_place := ⟨qm_32, qf_32, qk32⟩,
  me_Signs_sees := ⟨qm_33, qf_33, qk33⟩,
  me_Signs_take := ⟨qm_35, qf_35, qk35⟩,
  me_Signs_took := ⟨qm_36, qf_36, qk36⟩,
  me_Signs_word := ⟨qm_34, qf_34, qk34⟩,
  cf_Signs_at := ⟨⟨qp_Signs, qh_Signs, qo_Signs, qs_Signs⟩, qa_Signs_at⟩,
  cf_Signs_end := ⟨⟨qp_Signs, qh_Signs, qo_Signs, qs_Signs⟩, qa_Signs_end⟩,
  cf_Signs_rows := ⟨⟨qp_Signs, qh_Signs, qo_Signs, qs_Signs⟩, qa_Signs_rows⟩,
  er_BadText := ⟨⟨pi_BadText, "BadText.__init__", "self", [(_, _, _, _, _, _)], ⟨⟨"__init__", defArgs t_BadText___init__, defBody t_BadText___init__, defScope t_BadText___init__, kV_BadText, dc_BadText, pm_BadText, ct_BadText, oc_BadText, ccl_BadText, cl_BadText, an_BadText, od_BadText, cdd_BadText, cld_BadText, sl_BadText, ccs_BadText, csl_BadText, pc_BadText, pq_BadText, vs_BadText, file_BadText, tf_BadText, _, _, _, _, _, _, _, qj_BadText, qcd_BadText, qce_BadText, qcf_BadText, qcg_BadText, qch_BadText, rfl, ⟨[_], rfl, rfl⟩, fun env => ⟨_, rfl⟩, rfl, rfl, fun us hl => match us, hl with | [_, _], _ => rfl, by decide +kernel, rfl, rfl, rfl, by decide +kernel, by decide +kernel, by decide +kernel⟩, by decide +kernel, by decide, qci_BadText, qcj_BadText, qck_BadText, PySem.W.mg_none_of X G qsup, show (prog.main.scope.names.lookup ("super" : Str)).isSome = false by decide +kernel, by decide +kernel, qopq, by decide +kernel, fun p hp => by simp only [List.mem_cons, List.not_mem_nil, or_false] at hp; subst hp; exact qx_BadText_place, ⟨⟨nm_BadText, q_BadText, N_BadText, bs_BadText, bm_BadText, sn_BadText, sub_BadText, ab_BadText, col_BadText, dd_BadText, k0_BadText, k1_BadText, k2_BadText, k3_BadText, k5_BadText, qcl_BadText, qcm_BadText⟩, qcn_BadText, qe_BadText, qco_BadText, qcp_BadText⟩, qi_BadText, qcq_BadText⟩, .cons ⟨rfl, rfl⟩ (.nil), by simp, by simp⟩, qcp_BadText⟩,
  er_BadThing := ⟨⟨pi_BadThing, "BadThing.__init__", "self", [(_, _, _, _, _, _)], ⟨⟨"__init__", defArgs t_BadThing___init__, defBody t_BadThing___init__, defScope t_BadThing___init__, kV_BadThing, dc_BadThing, pm_BadThing, ct_BadThing, oc_BadThing, ccl_BadThing, cl_BadThing, an_BadThing, od_BadThing, cdd_BadThing, cld_BadThing, sl_BadThing, ccs_BadThing, csl_BadThing, pc_BadThing, pq_BadThing, vs_BadThing, file_BadThing, tf_BadThing, _, _, _, _, _, _, _, qj_BadThing, qcd_BadThing, qce_BadThing, qcf_BadThing, qcg_BadThing, qch_BadThing, rfl, ⟨[_], rfl, rfl⟩, fun env => ⟨_, rfl⟩, rfl, rfl, fun us hl => match us, hl with | [_, _], _ => rfl, by decide +kernel, rfl, rfl, rfl, by decide +kernel, by decide +kernel, by decide +kernel⟩, by decide +kernel, by decide, qci_BadThing, qcj_BadThing, qck_BadThing, PySem.W.mg_none_of X G qsup, show (prog.main.scope.names.lookup ("super" : Str)).isSome = false by decide +kernel, by decide +kernel, qopq, by decide +kernel, fun p hp => by simp only [List.mem_cons, List.not_mem_nil, or_false] at hp; subst hp; exact qx_BadThing_reason, ⟨⟨nm_BadThing, q_BadThing, N_BadThing, bs_BadThing, bm_BadThing, sn_BadThing, sub_BadThing, ab_BadThing, col_BadThing, dd_BadThing, k0_BadThing, k1_BadThing, k2_BadThing, k3_BadThing, k5_BadThing, qcl_BadThing, qcm_BadThing⟩, qcn_BadThing, qe_BadThing, qco_BadThing, qcp_BadThing⟩, qi_BadThing, qcq_BadThing⟩, .cons ⟨rfl, rfl⟩ (.nil), by simp, by simp⟩, qcp_BadThing⟩,
  xf_BadText_place := ⟨⟨qxa_BadText, qxb_BadText, qe_BadText, qxc_BadText⟩, qx_BadText_place⟩,
  xf_BadThing_reason := ⟨⟨qxa_BadThing, qxb_BadThing, qe_BadThing, qxc_BadThing⟩, qx_BadThing_reason⟩,
  em_BadText_BadText := qE_BadText_BadText,
  em_BadText_BadThing := qE_BadText_BadThing,
  em_BadThing_BadText := qE_BadThing_BadText,
  em_BadThing_BadThing := qE_BadThing_BadThing
  }
/-- what the end asks of law's def -/
theorem head {w : World} {K : PySem.W.Frag} {h : Heap} {mg : Str → Option Value} {fa : Addr} {l : List Addr} (k : Nat) (KX : K.In h) (G : h.Ns mainGlobals mg) (hmg : mg "law" = some (.ref fa)) (hl : PySem.W.nsIn K mainGlobals "law" = some (some (.ref (adrs l 30)))) (X : ∀ base : Heap, Tx (mkTab prog w K mg base l)) :
    ∃ T : Tab, T.P = prog ∧ T.w = w ∧ T.K = K ∧ T.mg = mg ∧ ∀ base : Heap, K.In base → base.Ns mainGlobals mg → FnA { T with base := base } k fa 1 (callF k 30) := by
  have e := hmg.symm.trans (PySem.W.mg_of KX G hl)
  cases e
  exact ⟨mkTab prog w K mg h l, rfl, rfl, rfl, rfl, fun base _ _ => walk (X base) k 30 1 rfl⟩
end Gm.K28

set_option Elab.async false
set_option linter.all false
set_option maxRecDepth 100000
set_option autoImplicit false
namespace Gm.K28
open Gm
theorem law_true (ns : List Int) (h : ns.length ≤ 63) : ∃ M', callF 115 30 [.frz (ns.map D.int)] [] = .ok (.bl true) M' := by
  obtain ⟨M', e⟩ := law_run ns
  have h0 : callF 115 30 = runF 11 (m_law (callF 114)) := rfl
  rw [h0]
  unfold runF
  rw [e]
  exact ⟨_, rfl⟩
end Gm.K28

set_option Elab.async false
set_option linter.all false
set_option maxRecDepth 100000
set_option maxHeartbeats 0
set_option autoImplicit false
open PySem PySem.Spec PySem.W PyProof.Rows L2 in
theorem PySem.Challenge.cw_guardmill_k28_codes_as_texts_bent_holds : PySem.Challenge.rw_guardmill_k28_codes_as_texts_bent.Holds := by
  w_on; o_law; k_head; (case hw => w_witness2)
  k_fill
  refine Gm.law_walk (l := PySem.Challenge.rw_guardmill_k28_codes_as_texts_bent) (k := 115) (F := Gm.K28.callF 115 30) rfl rfl ⟨by decide, by decide, by decide⟩ (fun w h Y => PySem.W.kIn_of Y) ?hF (fun ns h => Gm.K28.law_true ns h)
  case hF =>
    intro w mg fa h KX G hmg
    refine' Gm.K28.head (h := h) 115 KX G hmg ?ql (Gm.K28.facts (h := h) KX G ?qc_GuardError ?qc_BadThing ?qc_BadText ?qc_Signs ?qg__law_bent_text ?qg__law_code ?qg__law_digits ?qg__law_draw ?qg__law_is_refused ?qg__law_like ?qg__law_pick ?qg__law_read ?qg__law_same ?qg__law_test ?qg_bracketed ?qg_check_code ?qg_check_test ?qg_code_fault ?qg_format_code ?qg_format_test ?qg_inner_of ?qg_is_figures ?qg_is_integer ?qg_is_line ?qg_is_name ?qg_is_test ?qg_law ?qg_line_of ?qg_read_and ?qg_read_code ?qg_read_least ?qg_read_or ?qg_read_test ?qg_signs_of ?qg_written ?qm_31 ?qm_32 ?qm_33 ?qm_34 ?qm_35 ?qm_36 ?qm_37 ?ql0 ?qd0 ?qk0 ?ql1 ?qd1 ?qk1 ?ql2 ?qd2 ?qk2 ?ql3 ?qd3 ?qk3 ?ql4 ?qd4 ?qk4 ?ql5 ?qd5 ?qk5 ?ql6 ?qd6 ?qk6 ?ql7 ?qd7 ?qk7 ?ql8 ?qd8 ?qk8 ?ql9 ?qd9 ?qk9 ?ql10 ?qd10 ?qk10 ?ql11 ?qd11 ?qk11 ?ql12 ?qd12 ?qk12 ?ql13 ?qd13 ?qk13 ?ql14 ?qd14 ?qk14 ?ql15 ?qd15 ?qk15 ?ql16 ?qd16 ?qk16 ?ql17 ?qd17 ?qk17 ?ql18 ?qd18 ?qk18 ?ql19 ?qd19 ?qk19 ?ql20 ?qd20 ?qk20 ?ql21 ?qd21 ?qk21 ?ql22 ?qd22 ?qk22 ?ql23 ?qd23 ?qk23 ?ql24 ?qd24 ?qk24 ?ql25 ?qd25 ?qk25 ?ql26 ?qd26 ?qk26 ?ql27 ?qd27 ?qk27 ?ql28 ?qd28 ?qk28 ?ql29 ?qd29 ?qk29 ?ql30 ?qd30 ?qk30 ?ql31 ?qd31 ?qk31 ?ql32 ?qd32 ?qk32 ?ql33 ?qd33 ?qk33 ?ql34 ?qd34 ?qk34 ?ql35 ?qd35 ?qk35 ?ql36 ?qd36 ?qk36 ?ql37 ?qd37 ?qk37 ?qn_all ?qn_bool ?qn_enumerate ?qn_int ?qn_isinstance ?qn_len ?qn_list ?qn_range ?qn_repr ?qn_str ?qn_tuple ?qv_HEIGHTS ?qw_HEIGHTS ?qy_HEIGHTS ?qz_HEIGHTS_0 ?qz_HEIGHTS_1 ?qz_HEIGHTS_2 ?qv_LETTERS ?qv_MARKS ?qv_MOST_DEEP ?qv_MOST_LINES ?qv_WORDS ?qw_WORDS ?qp_Signs ?qh_Signs ?qo_Signs ?qs_Signs ?qf_31 ?qf_32 ?qf_33 ?qf_34 ?qf_35 ?qf_36 ?qf_37 ?qM_Signs ?qK_Signs ?qa_Signs_at ?qa_Signs_end ?qa_Signs_rows ?qsup ?qopq ?qx_BadText_place ?qx_BadThing_reason ?qe_BadText ?qe_BadThing ?qxa_BadText ?qxb_BadText ?qxc_BadText ?qxa_BadThing ?qxb_BadThing ?qxc_BadThing ?qi_BadText ?qj_BadText ?qcd_BadText ?qce_BadText ?qcf_BadText ?qcg_BadText ?qch_BadText ?qci_BadText ?qcj_BadText ?qck_BadText ?qcl_BadText ?qcm_BadText ?qcn_BadText ?qco_BadText ?qcp_BadText ?qcq_BadText ?qi_BadThing ?qj_BadThing ?qcd_BadThing ?qce_BadThing ?qcf_BadThing ?qcg_BadThing ?qch_BadThing ?qci_BadThing ?qcj_BadThing ?qck_BadThing ?qcl_BadThing ?qcm_BadThing ?qcn_BadThing ?qco_BadThing ?qcp_BadThing ?qcq_BadThing ?qE_BadText_BadText ?qE_BadText_BadThing ?qE_BadThing_BadText ?qE_BadThing_BadThing)
    (case qc_GuardError => k_is)
    (case qc_BadThing => k_is)
    (case qc_BadText => k_is)
    (case qc_Signs => k_is)
    (case qg__law_bent_text => k_is)
    (case qg__law_code => k_is)
    (case qg__law_digits => k_is)
    (case qg__law_draw => k_is)
    (case qg__law_is_refused => k_is)
    (case qg__law_like => k_is)
    (case qg__law_pick => k_is)
    (case qg__law_read => k_is)
    (case qg__law_same => k_is)
    (case qg__law_test => k_is)
    (case qg_bracketed => k_is)
    (case qg_check_code => k_is)
    (case qg_check_test => k_is)
    (case qg_code_fault => k_is)
    (case qg_format_code => k_is)
    (case qg_format_test => k_is)
    (case qg_inner_of => k_is)
    (case qg_is_figures => k_is)
    (case qg_is_integer => k_is)
    (case qg_is_line => k_is)
    (case qg_is_name => k_is)
    (case qg_is_test => k_is)
    (case qg_law => k_is)
    (case qg_line_of => k_is)
    (case qg_read_and => k_is)
    (case qg_read_code => k_is)
    (case qg_read_least => k_is)
    (case qg_read_or => k_is)
    (case qg_read_test => k_is)
    (case qg_signs_of => k_is)
    (case qg_written => k_is)
    (case qm_31 => k_is)
    (case qm_32 => k_is)
    (case qm_33 => k_is)
    (case qm_34 => k_is)
    (case qm_35 => k_is)
    (case qm_36 => k_is)
    (case qm_37 => k_is)
    (case ql0 => k_is)
    (case qd0 => k_is)
    (case qk0 => k_is)
    (case ql1 => k_is)
    (case qd1 => k_is)
    (case qk1 => k_is)
    (case ql2 => k_is)
    (case qd2 => k_is)
    (case qk2 => k_is)
    (case ql3 => k_is)
    (case qd3 => k_is)
    (case qk3 => k_is)
    (case ql4 => k_is)
    (case qd4 => k_is)
    (case qk4 => k_is)
    (case ql5 => k_is)
    (case qd5 => k_is)
    (case qk5 => k_is)
    (case ql6 => k_is)
    (case qd6 => k_is)
    (case qk6 => k_is)
    (case ql7 => k_is)
    (case qd7 => k_is)
    (case qk7 => k_is)
    (case ql8 => k_is)
    (case qd8 => k_is)
    (case qk8 => k_is)
    (case ql9 => k_is)
    (case qd9 => k_is)
    (case qk9 => k_is)
    (case ql10 => k_is)
    (case qd10 => k_is)
    (case qk10 => k_is)
    (case ql11 => k_is)
    (case qd11 => k_is)
    (case qk11 => k_is)
    (case ql12 => k_is)
    (case qd12 => k_is)
    (case qk12 => k_is)
    (case ql13 => k_is)
    (case qd13 => k_is)
    (case qk13 => k_is)
    (case ql14 => k_is)
    (case qd14 => k_is)
    (case qk14 => k_is)
    (case ql15 => k_is)
    (case qd15 => k_is)
    (case qk15 => k_is)
    (case ql16 => k_is)
    (case qd16 => k_is)
    (case qk16 => k_is)
    (case ql17 => k_is)
    (case qd17 => k_is)
    (case qk17 => k_is)
    (case ql18 => k_is)
    (case qd18 => k_is)
    (case qk18 => k_is)
    (case ql19 => k_is)
    (case qd19 => k_is)
    (case qk19 => k_is)
    (case ql20 => k_is)
    (case qd20 => k_is)
    (case qk20 => k_is)
    (case ql21 => k_is)
    (case qd21 => k_is)
    (case qk21 => k_is)
    (case ql22 => k_is)
    (case qd22 => k_is)
    (case qk22 => k_is)
    (case ql23 => k_is)
    (case qd23 => k_is)
    (case qk23 => k_is)
    (case ql24 => k_is)
    (case qd24 => k_is)
    (case qk24 => k_is)
    (case ql25 => k_is)
    (case qd25 => k_is)
    (case qk25 => k_is)
    (case ql26 => k_is)
    (case qd26 => k_is)
    (case qk26 => k_is)
    (case ql27 => k_is)
    (case qd27 => k_is)
    (case qk27 => k_is)
    (case ql28 => k_is)
    (case qd28 => k_is)
    (case qk28 => k_is)
    (case ql29 => k_is)
    (case qd29 => k_is)
    (case qk29 => k_is)
    (case ql30 => k_is)
    (case qd30 => k_is)
    (case qk30 => k_is)
    (case ql31 => k_is)
    (case qd31 => k_is)
    (case qk31 => k_is)
    (case ql32 => k_is)
    (case qd32 => k_is)
    (case qk32 => k_is)
    (case ql33 => k_is)
    (case qd33 => k_is)
    (case qk33 => k_is)
    (case ql34 => k_is)
    (case qd34 => k_is)
    (case qk34 => k_is)
    (case ql35 => k_is)
    (case qd35 => k_is)
    (case qk35 => k_is)
    (case ql36 => k_is)
    (case qd36 => k_is)
    (case qk36 => k_is)
    (case ql37 => k_is)
    (case qd37 => k_is)
    (case qk37 => k_is)
    (case qn_all => k_is)
    (case qn_bool => k_is)
    (case qn_enumerate => k_is)
    (case qn_int => k_is)
    (case qn_isinstance => k_is)
    (case qn_len => k_is)
    (case qn_list => k_is)
    (case qn_range => k_is)
    (case qn_repr => k_is)
    (case qn_str => k_is)
    (case qn_tuple => k_is)
    (case qv_HEIGHTS => k_is)
    (case qw_HEIGHTS => k_is)
    (case qy_HEIGHTS => exact ⟨⟨_, _, rfl, rfl⟩, ⟨_, _, rfl, rfl⟩, ⟨_, _, rfl, rfl⟩, trivial⟩)
    (case qz_HEIGHTS_0 => k_is)
    (case qz_HEIGHTS_1 => k_is)
    (case qz_HEIGHTS_2 => k_is)
    (case qv_LETTERS => k_is)
    (case qv_MARKS => k_is)
    (case qv_MOST_DEEP => k_is)
    (case qv_MOST_LINES => k_is)
    (case qv_WORDS => k_is)
    (case qw_WORDS => k_is)
    (case qp_Signs => k_is)
    (case qh_Signs => k_is)
    (case qo_Signs => k_is)
    (case qs_Signs => k_is)
    (case qf_31 => k_is)
    (case qf_32 => k_is)
    (case qf_33 => k_is)
    (case qf_34 => k_is)
    (case qf_35 => k_is)
    (case qf_36 => k_is)
    (case qf_37 => k_is)
    (case qM_Signs => k_is)
    (case qK_Signs => k_is)
    (case qa_Signs_at => k_is)
    (case qa_Signs_end => k_is)
    (case qa_Signs_rows => k_is)
    (case qsup => k_is)
    (case qopq => k_is)
    (case qx_BadText_place => k_is)
    (case qx_BadThing_reason => k_is)
    (case qe_BadText => k_is)
    (case qe_BadThing => k_is)
    (case qxa_BadText => k_is)
    (case qxb_BadText => k_is)
    (case qxc_BadText => k_is)
    (case qxa_BadThing => k_is)
    (case qxb_BadThing => k_is)
    (case qxc_BadThing => k_is)
    (case qi_BadText => k_is)
    (case qj_BadText => k_is)
    (case qcd_BadText => k_is)
    (case qce_BadText => k_is)
    (case qcf_BadText => rfl)
    (case qcg_BadText => decide +kernel)
    (case qch_BadText => k_is)
    (case qci_BadText => ks_is)
    (case qcj_BadText => k_is)
    (case qck_BadText => k_is)
    (case qcl_BadText => k_is)
    (case qcm_BadText => decide +kernel)
    (case qcn_BadText => k_is)
    (case qco_BadText => k_is)
    (case qcp_BadText => k_is)
    (case qcq_BadText => k_is)
    (case qi_BadThing => k_is)
    (case qj_BadThing => k_is)
    (case qcd_BadThing => k_is)
    (case qce_BadThing => k_is)
    (case qcf_BadThing => rfl)
    (case qcg_BadThing => decide +kernel)
    (case qch_BadThing => k_is)
    (case qci_BadThing => ks_is)
    (case qcj_BadThing => k_is)
    (case qck_BadThing => k_is)
    (case qcl_BadThing => k_is)
    (case qcm_BadThing => decide +kernel)
    (case qcn_BadThing => k_is)
    (case qco_BadThing => k_is)
    (case qcp_BadThing => k_is)
    (case qcq_BadThing => k_is)
    (case qE_BadText_BadText => kernel_rfl)
    (case qE_BadText_BadThing => kernel_rfl)
    (case qE_BadThing_BadText => kernel_rfl)
    (case qE_BadThing_BadThing => kernel_rfl)
    (case ql => k_is)
