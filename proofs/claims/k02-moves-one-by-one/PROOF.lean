import PyProof.Rows.All
import Wide.All
import OpenK.AllK
import Wide.FinOn
import HandS.ForMost
import HandS.ForExc
import HandS.IsInst
import KE.KIndexOf
import KE.SortData
import HandS.Conv
import HandS.TupAny
import HandS.More
import KE.DataMinMax
import HandS.ExcIs
import HandS.WordsExc
import KE.KEqDeep
import PySem.Challenge.RW_slidefloor_k02_moves_one_by_one
set_option Elab.async false
set_option linter.all false
set_option maxRecDepth 100000
set_option maxHeartbeats 4000000
/-! Dx1: values as data over a frozen part of the abstract heap. -/
namespace Dx
open PySem L2

/-! ### heaps that grow -/
def Ex (H H' : Hp) : Prop := ∀ a o, H a = some o → H' a = some o
theorem Ex.refl (H : Hp) : Ex H H := fun _ _ h => h
theorem Ex.trans {A B C : Hp} (p : Ex A B) (q : Ex B C) : Ex A C := fun x o h => q x o (p x o h)
theorem Ex.free {A B : Hp} {a : Addr} (e : Ex A B) (h : B a = none) : A a = none := by
  cases q : A a with
  | none => rfl
  | some o => rw [e a o q] at h; cases h
theorem Ex.new {A : Hp} {a : Addr} {o : HO} (h : A a = none) : Ex A (upd A a o) := fun b u e => by
  rw [upd_ne (ne_of_none e h)]; exact e
theorem Ex.mut {A B : Hp} {a : Addr} {o : HO} (e : Ex A B) (h : A a = none) : Ex A (upd B a o) := fun b u q => by
  rw [upd_ne (ne_of_none q h)]; exact e b u q
theorem Ex.both {A B : Hp} {a : Addr} {o : HO} (e : Ex A B) : Ex (upd A a o) (upd B a o) := fun b u q => by
  by_cases z : b = a
  · subst z; rw [upd_same] at q ⊢; exact q
  · rw [upd_ne z] at q ⊢; exact e b u q
theorem Ex.rd {A B : Hp} {a : Addr} {u : HO} (e : Ex A B) (h : Rd A a u) : Rd B a u := by
  rcases h with h | ⟨o, h⟩
  · exact .inl (e _ _ h)
  · exact .inr ⟨o, e _ _ h⟩
theorem Ex.l {K : PySem.W.Frag} {A B : Hp} {a : Addr} {xs : List V} (e : Ex A B) (h : SqL K A a xs) : SqL K B a xs := by
  rcases h with h | h
  · exact .inl (e.rd h)
  · exact .inr h

/-- a tuple whose object's own dict is known to be none -/
def SqF (K : PySem.W.Frag) (H : Hp) (a : Addr) (xs : List V) : Prop :=
  (∃ o : Obj, o.dict = none ∧ H a = some (.frz o (.tup xs))) ∨
  ∃ (o : Obj) (its : Array Value) (n : Nat), K.lookup a = some o ∧ o.cls = .type "tuple" ∧ o.dict = none ∧ o.data = .seq its n ∧ its.size ≤ sizeLine ∧ Vals xs its.toList
theorem SqF.t {K : PySem.W.Frag} {H : Hp} {a : Addr} {xs : List V} (h : SqF K H a xs) : SqT K H a xs := by
  rcases h with ⟨o, _, h⟩ | ⟨o, its, n, h1, h2, _, h4, h5, h6⟩
  · exact .inl (.inr ⟨o, h⟩)
  · exact .inr ⟨o, its, n, h1, h2, h4, h5, h6⟩
theorem Ex.t {K : PySem.W.Frag} {A B : Hp} {a : Addr} {xs : List V} (e : Ex A B) (h : SqF K A a xs) : SqF K B a xs := by
  rcases h with ⟨o, d, h⟩ | h
  · exact .inl ⟨o, d, e _ _ h⟩
  · exact .inr h

/-! ### data -/
/-- an exception that is held as a value: its class, no dict of its own -/
def XO (C a : Addr) : HO := .ext fun h => ∃ (oe : Obj) (vs : Array Value), h.get? a = some oe ∧ oe.cls = .ref C ∧ oe.dict = none ∧ oe.data = .fields vs
def excD (C : Addr) : PyData := .dict [(.bool true, .int (C : Nat))]
/-- the script: a list of ints that is read only, told apart from lists of one's own -/
def scrD (ns : List Int) : PyData := .dict ((.none, .none) :: ns.map fun n => (.none, .int n))
mutual
inductive Is (K : PySem.W.Frag) (H : Hp) : V → PyData → Prop
  | non : Is K H .non .none
  | bl (b : Bool) : Is K H (.bl b) (.bool b)
  | int (i : Int) : Is K H (.int i) (.int i)
  | str (x : Str) : Is K H (.str x) (.str x)
  | lst {a : Addr} {xs : List V} {ds : List PyData} : H a = some (.lst xs) → IsAll K H xs ds → Is K H (.ref a) (.list ds)
  | tup {a : Addr} {xs : List V} {ds : List PyData} : SqF K H a xs → IsAll K H xs ds → Is K H (.ref a) (.tuple ds)
  | dct {a : Addr} : H a = some (.dK []) → Is K H (.ref a) (.dict [])
  | exc {a C : Addr} : H a = some (XO C a) → Is K H (.ref a) (excD C)
  | scr {a : Addr} {ns : List Int} : SqL K H a (ns.map V.int) → Is K H (.ref a) (scrD ns)
inductive IsAll (K : PySem.W.Frag) (H : Hp) : List V → List PyData → Prop
  | nil : IsAll K H [] []
  | cons {v : V} {vs : List V} {d : PyData} {ds : List PyData} : Is K H v d → IsAll K H vs ds → IsAll K H (v :: vs) (d :: ds)
end

section
variable {K : PySem.W.Frag} {A B : Hp}
mutual
theorem Is.ex (e : Ex A B) : ∀ (d : PyData) (v : V), Is K A v d → Is K B v d
  | .none, _, .non => .non
  | .bool _, _, .bl b => .bl b
  | .int _, _, .int i => .int i
  | .str _, _, .str x => .str x
  | .list ds, _, .lst h hs => .lst (e _ _ h) (IsAll.ex e ds _ hs)
  | .tuple ds, _, .tup h hs => .tup (e.t h) (IsAll.ex e ds _ hs)
  | .dict _, _, .dct h => .dct (e _ _ h)
  | .dict _, _, .scr h => .scr (e.l h)
  | .dict _, _, .exc h => .exc (e _ _ h)
theorem IsAll.ex (e : Ex A B) : ∀ (ds : List PyData) (vs : List V), IsAll K A vs ds → IsAll K B vs ds
  | [], _, .nil => .nil
  | d :: ds, _, .cons h hs => .cons (Is.ex e d _ h) (IsAll.ex e ds _ hs)
end
theorem Is.mono {v : V} {d : PyData} (h : Is K A v d) (e : Ex A B) : Is K B v d := Is.ex e d v h
theorem IsAll.mono {vs : List V} {ds : List PyData} (h : IsAll K A vs ds) (e : Ex A B) : IsAll K B vs ds := IsAll.ex e ds vs h
end
section
variable {K : PySem.W.Frag} {H : Hp}
theorem IsAll.len : ∀ {vs : List V} {ds : List PyData}, IsAll K H vs ds → vs.length = ds.length
  | _, _, .nil => rfl
  | _, _, .cons _ t => by rw [List.length_cons, List.length_cons, IsAll.len t]
theorem IsAll.get : ∀ {vs : List V} {ds : List PyData} {i : Nat} {d : PyData}, IsAll K H vs ds → ds[i]? = some d → ∃ v, vs[i]? = some v ∧ Is K H v d
  | _, _, _, _, .nil, e => by simp at e
  | _, _, 0, _, .cons h _, e => by simp at e; subst e; exact ⟨_, rfl, h⟩
  | _, _, i + 1, d, .cons _ t, e => by
    obtain ⟨v, h1, h2⟩ := IsAll.get (i := i) (d := d) t (by simpa using e)
    exact ⟨v, by simpa using h1, h2⟩
theorem IsAll.getV : ∀ {vs : List V} {ds : List PyData} {i : Nat} {v : V}, IsAll K H vs ds → vs[i]? = some v → ∃ d, ds[i]? = some d ∧ Is K H v d
  | _, _, _, _, .nil, e => by simp at e
  | _, _, 0, _, .cons h _, e => by simp at e; subst e; exact ⟨_, rfl, h⟩
  | _, _, i + 1, v, .cons _ t, e => by
    obtain ⟨d, h1, h2⟩ := IsAll.getV (i := i) (v := v) t (by simpa using e)
    exact ⟨d, by simpa using h1, h2⟩
theorem IsAll.app : ∀ {vs ws : List V} {ds es : List PyData}, IsAll K H vs ds → IsAll K H ws es → IsAll K H (vs ++ ws) (ds ++ es)
  | _, _, _, _, .nil, h => h
  | _, _, _, _, .cons h t, q => .cons h (IsAll.app t q)
theorem IsAll.one {v : V} {d : PyData} (h : Is K H v d) : IsAll K H [v] [d] := .cons h .nil
theorem IsAll.set : ∀ {vs : List V} {ds : List PyData} {v : V} {d : PyData} (i : Nat), IsAll K H vs ds → Is K H v d → IsAll K H (vs.set i v) (ds.set i d)
  | _, _, _, _, _, .nil, _ => .nil
  | _, _, _, _, 0, .cons _ t, h => .cons h t
  | _, _, _, _, i + 1, .cons q t, h => .cons q (IsAll.set i t h)
theorem IsAll.take : ∀ {vs : List V} {ds : List PyData} (n : Nat), IsAll K H vs ds → IsAll K H (vs.take n) (ds.take n)
  | _, _, 0, _ => .nil
  | _, _, _ + 1, .nil => .nil
  | _, _, n + 1, .cons h t => .cons h (IsAll.take n t)
theorem IsAll.drop : ∀ {vs : List V} {ds : List PyData} (n : Nat), IsAll K H vs ds → IsAll K H (vs.drop n) (ds.drop n)
  | _, _, 0, h => h
  | _, _, _ + 1, .nil => .nil
  | _, _, n + 1, .cons _ t => IsAll.drop n t
theorem IsAll.rev {vs : List V} {ds : List PyData} (h : IsAll K H vs ds) : IsAll K H vs.reverse ds.reverse := by
  induction vs generalizing ds with
  | nil => cases h; exact .nil
  | cons v vs ih =>
    cases h with
    | cons a t => rw [List.reverse_cons, List.reverse_cons]; exact (ih t).app (.one a)
/-- all data but dicts -/
theorem Is.lst_inv {v : V} {ds : List PyData} (h : Is K H v (.list ds)) : ∃ a xs, v = .ref a ∧ H a = some (.lst xs) ∧ IsAll K H xs ds := by
  cases h with
  | lst a b => exact ⟨_, _, rfl, a, b⟩
theorem Is.tup_inv {v : V} {ds : List PyData} (h : Is K H v (.tuple ds)) : ∃ a xs, v = .ref a ∧ SqF K H a xs ∧ IsAll K H xs ds := by
  cases h with
  | tup a b => exact ⟨_, _, rfl, a, b⟩
theorem scr_inj : ∀ {ns ms : List Int}, scrD ns = scrD ms → ns = ms := fun {ns ms} e => by
  have e' : (ns.map fun n => ((.none, .int n) : PyData × PyData)) = ms.map fun n => (.none, .int n) := by
    injection e with e; injection e
  induction ns generalizing ms with
  | nil => cases ms with
    | nil => rfl
    | cons _ _ => cases e'
  | cons n ns ih => cases ms with
    | nil => cases e'
    | cons m ms =>
      injection e' with e1 e2
      injection e1 with _ e3
      injection e3 with e4
      rw [e4, ih (by unfold scrD; rw [e2]) e2]
theorem Is.scr_inv {v : V} {ns : List Int} (h : Is K H v (scrD ns)) : ∃ a, v = .ref a ∧ SqL K H a (ns.map V.int) := by
  generalize hd : scrD ns = d at h
  cases h with
  | @scr a ms q => rw [scr_inj hd]; exact ⟨a, rfl, q⟩
  | dct _ => cases hd
  | _ => cases hd
theorem Is.exc_inv {v : V} {C : Addr} (h : Is K H v (excD C)) : ∃ a, v = .ref a ∧ H a = some (XO C a) := by
  generalize hd : excD C = d at h
  cases h with
  | @exc a C' q =>
    have : (C : Int) = (C' : Int) := by
      injection hd with hd; injection hd with h1 _; injection h1 with _ h2; injection h2
    have e : C = C' := Int.ofNat.inj this
    subst e
    exact ⟨a, rfl, q⟩
  | _ => cases hd
theorem Is.int_inv {v : V} {i : Int} (h : Is K H v (.int i)) : v = .int i := by cases h; rfl
theorem Is.bl_inv {v : V} {i : Bool} (h : Is K H v (.bool i)) : v = .bl i := by cases h; rfl
theorem Is.str_inv {v : V} {i : Str} (h : Is K H v (.str i)) : v = .str i := by cases h; rfl
theorem Is.non_inv {v : V} (h : Is K H v .none) : v = .non := by cases h; rfl
end
mutual
/-- no dict within -/
def noD : PyData → Bool
  | .dict _ => false
  | .list ds => noDs ds
  | .tuple ds => noDs ds
  | _ => true
def noDs : List PyData → Bool
  | [] => true
  | d :: ds => noD d && noDs ds
end
section
variable {K : PySem.W.Frag} {H : Hp}
mutual
theorem Is.dp : ∀ (d : PyData) (v : V), noD d = true → Is K H v d → Dp K H v d
  | .none, _, _, .non => .non
  | .bool _, _, _, .bl b => .bl b
  | .int _, _, _, .int i => .int i
  | .str _, _, _, .str x => .str x
  | .list ds, _, n, .lst h hs => .lst (.inl (.inl h)) (IsAll.dp ds _ n hs)
  | .tuple ds, _, n, .tup h hs => .tup h.t (IsAll.dp ds _ n hs)
theorem IsAll.dp : ∀ (ds : List PyData) (vs : List V), noDs ds = true → IsAll K H vs ds → DpAll K H vs ds
  | [], _, _, .nil => .nil
  | d :: ds, _, n, .cons h hs => by
    have n' : (noD d && noDs ds) = true := n
    rw [Bool.and_eq_true] at n'
    exact .cons (Is.dp d _ n'.1 h) (IsAll.dp ds _ n'.2 hs)
end
end

/-! ### frozen part, whole heap, both grown -/
structure Ext (F0 H0 F H : Hp) : Prop where
  f : Ex F0 F
  h : Ex H0 H
  s : Ex F H
  av : ∀ a, F0 a = none → H0 a ≠ none → F a = none
theorem Ext.refl {F H : Hp} (s : Ex F H) : Ext F H F H := ⟨.refl _, .refl _, s, fun _ h _ => h⟩
theorem Ext.trans {F0 H0 F1 H1 F2 H2 : Hp} (p : Ext F0 H0 F1 H1) (q : Ext F1 H1 F2 H2) : Ext F0 H0 F2 H2 :=
  ⟨p.f.trans q.f, p.h.trans q.h, q.s, fun a h1 h2 => q.av a (p.av a h1 h2) fun z => h2 (p.h.free z)⟩
/-- the whole heap grows, the frozen part stays -/
theorem Ext.grow {F H H' : Hp} (s : Ex F H) (e : Ex H H') : Ext F H F H' := ⟨.refl _, e, s.trans e, fun _ h _ => h⟩
/-- a new frozen object -/
theorem Ext.new {F H : Hp} {a : Addr} {o : HO} (s : Ex F H) (h : H a = none) : Ext F H (upd F a o) (upd H a o) := by
  refine ⟨.new (s.free h), .new h, s.both, fun b h1 h2 => ?_⟩
  have ne : b ≠ a := fun z => h2 (z ▸ h)
  rw [upd_ne ne]; exact h1
/-- an object that stands, new since then, is frozen -/
theorem Ext.frz {F0 H0 F H : Hp} {a : Addr} {o : HO} (e : Ext F0 H0 F H) (h0 : H0 a = none) (hf : F a = none) (h : H a = some o) : Ext F0 H0 (upd F a o) H := by
  refine ⟨e.f.mut (e.f.free hf), e.h, fun b u q => ?_, fun b h1 h2 => ?_⟩
  · by_cases z : b = a
    · subst z; rw [upd_same] at q; rw [h]; exact q
    · rw [upd_ne z] at q; exact e.s b u q
  · have ne : b ≠ a := fun z => h2 (z ▸ h0)
    rw [upd_ne ne]; exact e.av b h1 h2

/-! ### slots -/
inductive Sl where
  | d (x : PyData)
  | l (a : Addr) (xs : List PyData)
  | v (x : V)
abbrev De := List (Option Sl)
def SlOk (K : PySem.W.Frag) (H0 F H : Hp) : Sl → V → Prop
  | .d x, v => Is K F v x
  | .l a xs, v => v = .ref a ∧ H0 a = none ∧ F a = none ∧ ∃ vs, H a = some (.lst vs) ∧ IsAll K F vs xs
  | .v x, v => v = x
structure M (K : PySem.W.Frag) (F0 H0 F H : Hp) (σ : L2.St) (Δ : De) : Prop where
  ext : Ext F0 H0 F H
  len : σ.length = Δ.length
  ok : ∀ (i : Nat) (s : Sl), Δ[i]? = some (some s) → ∃ v, σ[i]? = some (some v) ∧ SlOk K H0 F H s v
  ap : ∀ (i j : Nat) (a : Addr) (xs ys : List PyData), Δ[i]? = some (some (.l a xs)) → Δ[j]? = some (some (.l a ys)) → i = j
section
variable {K : PySem.W.Frag} {F0 H0 F H F' H' : Hp} {σ : L2.St} {Δ : De}
theorem SlOk.ext {s : Sl} {v : V} (h : SlOk K H0 F H s v) (e : Ext F H F' H') : SlOk K H0 F' H' s v := by
  cases s with
  | d x => exact Is.mono h e.f
  | l a xs =>
    obtain ⟨rfl, h1, h2, vs, h3, h4⟩ := h
    exact ⟨rfl, h1, e.av a h2 (by rw [h3]; intro z; cases z), vs, e.h _ _ h3, h4.mono e.f⟩
  | v x => exact h
theorem M.step (m : M K F0 H0 F H σ Δ) (e : Ext F H F' H') : M K F0 H0 F' H' σ Δ :=
  ⟨m.ext.trans e, m.len, fun i s h => let ⟨v, h1, h2⟩ := m.ok i s h; ⟨v, h1, h2.ext e⟩, m.ap⟩
theorem M.s (m : M K F0 H0 F H σ Δ) : Ex F H := m.ext.s
theorem M.weak {Δ' : De} (m : M K F0 H0 F H σ Δ) (hl : Δ'.length = Δ.length) (h : ∀ (i : Nat) (s : Sl), Δ'[i]? = some (some s) → Δ[i]? = some (some s)) : M K F0 H0 F H σ Δ' :=
  ⟨m.ext, m.len.trans hl.symm, fun i s q => m.ok i s (h i s q), fun i j a xs ys p q => m.ap i j a xs ys (h _ _ p) (h _ _ q)⟩
/-- a slot gets data -/
theorem M.setD {i : Nat} {v : V} {d : PyData} (m : M K F0 H0 F H σ Δ) (h : Is K F v d) : M K F0 H0 F H (σ.set i (some v)) (Δ.set i (some (.d d))) := by
  refine ⟨m.ext, by simp [m.len], fun j s q => ?_, fun j k a xs ys p q => ?_⟩
  · by_cases z : i = j
    · subst z
      have hi : i < Δ.length := by have := (List.getElem?_eq_some_iff.mp q).1; simpa using this
      rw [List.getElem?_set_self hi] at q
      cases q
      exact ⟨v, by rw [List.getElem?_set_self (by rw [m.len]; exact hi)], h⟩
    · rw [List.getElem?_set_ne z] at q ⊢
      exact m.ok j s q
  · have ne : ∀ (k : Nat) (zs : List PyData), (Δ.set i (some (.d d)))[k]? = some (some (.l a zs)) → Δ[k]? = some (some (.l a zs)) := fun k zs r => by
      by_cases z : i = k
      · subst z
        have hi : i < Δ.length := by have := (List.getElem?_eq_some_iff.mp r).1; simpa using this
        rw [List.getElem?_set_self hi] at r
        cases r
      · rw [List.getElem?_set_ne z] at r; exact r
    exact m.ap j k a xs ys (ne _ _ p) (ne _ _ q)
theorem M.setV {i : Nat} {v : V} (m : M K F0 H0 F H σ Δ) : M K F0 H0 F H (σ.set i (some v)) (Δ.set i (some (.v v))) := by
  refine ⟨m.ext, by simp [m.len], fun j s q => ?_, fun j k a xs ys p q => ?_⟩
  · by_cases z : i = j
    · subst z
      have hi : i < Δ.length := by have := (List.getElem?_eq_some_iff.mp q).1; simpa using this
      rw [List.getElem?_set_self hi] at q
      cases q
      exact ⟨v, by rw [List.getElem?_set_self (by rw [m.len]; exact hi)], rfl⟩
    · rw [List.getElem?_set_ne z] at q ⊢
      exact m.ok j s q
  · have ne : ∀ (k : Nat) (zs : List PyData), (Δ.set i (some (.v v)))[k]? = some (some (.l a zs)) → Δ[k]? = some (some (.l a zs)) := fun k zs r => by
      by_cases z : i = k
      · subst z
        have hi : i < Δ.length := by have := (List.getElem?_eq_some_iff.mp r).1; simpa using this
        rw [List.getElem?_set_self hi] at r
        cases r
      · rw [List.getElem?_set_ne z] at r; exact r
    exact m.ap j k a xs ys (ne _ _ p) (ne _ _ q)
/-- a slot is forgotten -/
theorem M.setN {i : Nat} {x : Option V} (m : M K F0 H0 F H σ Δ) : M K F0 H0 F H (σ.set i x) (Δ.set i none) := by
  refine ⟨m.ext, by simp [m.len], fun j s q => ?_, fun j k a xs ys p q => ?_⟩
  · by_cases z : i = j
    · subst z
      have hi : i < Δ.length := by have := (List.getElem?_eq_some_iff.mp q).1; simpa using this
      rw [List.getElem?_set_self hi] at q
      cases q
    · rw [List.getElem?_set_ne z] at q ⊢
      exact m.ok j s q
  · have ne : ∀ (k : Nat) (zs : List PyData), (Δ.set i none)[k]? = some (some (.l a zs)) → Δ[k]? = some (some (.l a zs)) := fun k zs r => by
      by_cases z : i = k
      · subst z
        have hi : i < Δ.length := by have := (List.getElem?_eq_some_iff.mp r).1; simpa using this
        rw [List.getElem?_set_self hi] at r
        cases r
      · rw [List.getElem?_set_ne z] at r; exact r
    exact m.ap j k a xs ys (ne _ _ p) (ne _ _ q)
/-- a slot gets a list of its own that no slot has -/
theorem M.setL {i : Nat} {a : Addr} {xs : List PyData} {vs : List V} (m : M K F0 H0 F H σ Δ) (h0 : H0 a = none) (hf : F a = none) (h : H a = some (.lst vs)) (hx : IsAll K F vs xs)
    (hn : ∀ (j : Nat) ys, Δ[j]? = some (some (.l a ys)) → j = i) : M K F0 H0 F H (σ.set i (some (.ref a))) (Δ.set i (some (.l a xs))) := by
  refine ⟨m.ext, by simp [m.len], fun j s q => ?_, fun j k b ys zs p q => ?_⟩
  · by_cases z : i = j
    · subst z
      have hi : i < Δ.length := by have := (List.getElem?_eq_some_iff.mp q).1; simpa using this
      rw [List.getElem?_set_self hi] at q
      cases q
      exact ⟨_, by rw [List.getElem?_set_self (by rw [m.len]; exact hi)], rfl, h0, hf, vs, h, hx⟩
    · rw [List.getElem?_set_ne z] at q ⊢
      exact m.ok j s q
  · have ne : ∀ (k : Nat) (ws : List PyData), (Δ.set i (some (.l a xs)))[k]? = some (some (.l b ws)) → (k = i ∧ b = a) ∨ (k ≠ i ∧ Δ[k]? = some (some (.l b ws))) := fun k ws r => by
      by_cases z : i = k
      · subst z
        have hi : i < Δ.length := by have := (List.getElem?_eq_some_iff.mp r).1; simpa using this
        rw [List.getElem?_set_self hi] at r
        cases r
        exact .inl ⟨rfl, rfl⟩
      · rw [List.getElem?_set_ne z] at r; exact .inr ⟨fun e => z e.symm, r⟩
    rcases ne _ _ p with ⟨e1, e2⟩ | ⟨n1, e2⟩
    · rcases ne _ _ q with ⟨e3, e4⟩ | ⟨n3, e4⟩
      · rw [e1, e3]
      · rw [e2] at e4; exact absurd (hn k _ e4) n3
    · rcases ne _ _ q with ⟨e3, e4⟩ | ⟨n3, e4⟩
      · rw [e4] at e2; exact absurd (hn j _ e2) n1
      · exact m.ap j k b ys zs e2 e4
/-- a list that is a slot's own is changed -/
theorem M.upL {i : Nat} {a : Addr} {xs ys : List PyData} {ws : List V} (m : M K F0 H0 F H σ Δ) (hi : Δ[i]? = some (some (.l a xs))) (hx : IsAll K F ws ys) :
    M K F0 H0 F (upd H a (.lst ws)) σ (Δ.set i (some (.l a ys))) := by
  obtain ⟨v, hv, rfl, h0, hf, vs, h, hs⟩ := m.ok i _ hi
  have il : i < Δ.length := (List.getElem?_eq_some_iff.mp hi).1
  refine ⟨⟨m.ext.f, m.ext.h.mut h0, m.ext.s.mut hf, m.ext.av⟩, by simp [m.len], fun j s q => ?_, fun j k b xs' ys' p q => ?_⟩
  · by_cases z : i = j
    · subst z
      rw [List.getElem?_set_self il] at q
      cases q
      exact ⟨_, hv, rfl, h0, hf, ws, upd_same, hx⟩
    · rw [List.getElem?_set_ne z] at q
      obtain ⟨v', e1, e2⟩ := m.ok j s q
      refine ⟨v', e1, ?_⟩
      cases s with
      | d x => exact e2
      | v x => exact e2
      | l b zs =>
        obtain ⟨r1, r2, r3, us, r4, r5⟩ := e2
        refine ⟨r1, r2, r3, us, ?_, r5⟩
        have : b ≠ a := fun e => z (m.ap i j a xs zs hi (e ▸ q))
        rw [upd_ne this]; exact r4
  · have ne : ∀ (k : Nat) (ws : List PyData), (Δ.set i (some (.l a ys)))[k]? = some (some (.l b ws)) → ∃ ws', Δ[k]? = some (some (.l b ws')) := fun k ws r => by
      by_cases z : i = k
      · subst z
        rw [List.getElem?_set_self il] at r
        cases r
        exact ⟨xs, hi⟩
      · rw [List.getElem?_set_ne z] at r; exact ⟨ws, r⟩
    obtain ⟨_, e1⟩ := ne _ _ p
    obtain ⟨_, e2⟩ := ne _ _ q
    exact m.ap j k b _ _ e1 e2
theorem M.d {i : Nat} {d : PyData} (m : M K F0 H0 F H σ Δ) (h : Δ[i]? = some (some (.d d))) : ∃ v, σ[i]? = some (some v) ∧ Is K F v d := m.ok i _ h
end
end Dx

set_option Elab.async false
set_option linter.all false
set_option maxRecDepth 100000
set_option maxHeartbeats 4000000
/-! Dx2: what a reading gives, as data. -/
namespace Dx
open PySem L2

section
variable (K : PySem.W.Frag)
def EvD (te : TE) (Δ : De) (d : PyData) : Prop := ∀ F0 H0 F H σ, M K F0 H0 F H σ Δ → ∀ Q : VK, (∀ v F' H', Ext F H F' H' → Is K F' v d → Q v H') → te σ H Q
/-- .. that may be read as it stands now -/
def EvR (te : TE) (Δ : De) (d : PyData) : Prop := ∀ F0 H0 F H σ, M K F0 H0 F H σ Δ → ∀ Q : VK, (∀ v F' H', Ext F H F' H' → Is K H' v d → Q v H') → te σ H Q
/-- a new list, not frozen yet -/
def EvO (te : TE) (Δ : De) (xs : List PyData) : Prop := ∀ F0 H0 F H σ, M K F0 H0 F H σ Δ → ∀ Q : VK,
  (∀ p vs F' H', Ext F H F' H' → H p = none → F' p = none → H' p = some (.lst vs) → IsAll K F' vs xs → Q (.ref p) H') → te σ H Q
def EvT (tt : TT) (Δ : De) (b : Bool) : Prop := ∀ F0 H0 F H σ, M K F0 H0 F H σ Δ → ∀ Q : Bool → Hp → Prop, (∀ F' H', Ext F H F' H' → Q b H') → tt σ H Q
def EvA (ta : TA) (Δ : De) (ds : List PyData) : Prop := ∀ F0 H0 F H σ, M K F0 H0 F H σ Δ → ∀ Q : List V → Hp → Prop, (∀ vs F' H', Ext F H F' H' → IsAll K F' vs ds → Q vs H') → ta σ H Q
def EvB (ta : TA) (Δ : De) (ds : List PyData) : Prop := ∀ F0 H0 F H σ, M K F0 H0 F H σ Δ → ∀ Q : List V → Hp → Prop, (∀ vs F' H', Ext F H F' H' → IsAll K H' vs ds → Q vs H') → ta σ H Q
def EvI (to : TO) (Δ : De) (o : Option Int) : Prop := ∀ F0 H0 F H σ, M K F0 H0 F H σ Δ → ∀ Q : Option Int → Hp → Prop, (∀ F' H', Ext F H F' H' → Q o H') → to σ H Q
end
section
variable {K K' : PySem.W.Frag} {Δ : De} {ta tb tc te : TE} {d x y : PyData} {i j k : Int}
theorem evr {te : TE} (h : EvD K te Δ d) : EvR K te Δ d := fun F0 H0 F H σ m Q q => h F0 H0 F H σ m Q fun v F' H' e s => q v F' H' e (s.mono e.s)
theorem evd_own {te : TE} {xs : List PyData} (h : EvO K te Δ xs) : EvD K te Δ (.list xs) := fun F0 H0 F H σ m Q q =>
  h F0 H0 F H σ m Q fun p vs F' H' e hp hf h1 h2 => q (.ref p) (upd F' p (.lst vs)) H' (e.frz hp hf h1) (.lst upd_same (h2.mono (.new hf)))
theorem evd_eq {d' : PyData} (h : EvD K te Δ d) (e : d = d') : EvD K te Δ d' := e ▸ h
theorem evr_eq {d' : PyData} (h : EvR K te Δ d) (e : d = d') : EvR K te Δ d' := e ▸ h
theorem evo_eq {d d' : List PyData} (h : EvO K te Δ d) (e : d = d') : EvO K te Δ d' := e ▸ h
theorem evt_eq {t : TT} {b b' : Bool} (h : EvT K t Δ b) (e : b = b') : EvT K t Δ b' := e ▸ h

theorem evd_var {n : Nat} (h : Δ[n]? = some (some (.d d))) : EvD K (tVar n) Δ d := fun F0 H0 F H σ m Q q =>
  let ⟨v, h1, h2⟩ := m.d h; ⟨v, h1, q v F H (.refl m.s) h2⟩
theorem evr_own {n : Nat} {a : Addr} {xs : List PyData} (h : Δ[n]? = some (some (.l a xs))) : EvR K (tVar n) Δ (.list xs) := fun F0 H0 F H σ m Q q => by
  obtain ⟨v, h1, rfl, h2, h3, vs, h4, h5⟩ := m.ok n _ h
  exact ⟨_, h1, q _ F H (.refl m.s) (.lst h4 (h5.mono m.s))⟩
theorem evd_int : EvD K (tC (.int i)) Δ (.int i) := fun F0 H0 F H σ m Q q => q _ F H (.refl m.s) (.int i)
theorem evd_bl {b : Bool} : EvD K (tC (.bl b)) Δ (.bool b) := fun F0 H0 F H σ m Q q => q _ F H (.refl m.s) (.bl b)
theorem evd_non : EvD K (tC .non) Δ .none := fun F0 H0 F H σ m Q q => q _ F H (.refl m.s) .non
theorem evd_str {z : Str} : EvD K (tC (.str z)) Δ (.str z) := fun F0 H0 F H σ m Q q => q _ F H (.refl m.s) (.str z)
/-- a constant of the module, known -/
theorem evd_con {v : V} (h : ∀ F : Hp, Is K F v d) : EvD K (tC v) Δ d := fun F0 H0 F H σ m Q q => q _ F H (.refl m.s) (h F)

/-! ### ints -/
theorem evd_op2 {r : R2} {z : PyData} (ha : EvR K ta Δ x) (hb : EvR K tb Δ y) (hr : ∀ (v w : V) F H, Ex F H → Is K H v x → Is K H w y → ∀ Q : VK, (∀ u F' H', Ext F H F' H' → Is K F' u z → Q u H') → r v w H Q) :
    EvD K (tOp r ta tb) Δ z := fun F0 H0 F H σ m Q q => ha F0 H0 F H σ m _ fun v F1 H1 e1 s1 => hb F0 H0 F1 H1 σ (m.step e1) _ fun w F2 H2 e2 s2 =>
  hr v w F2 H2 e2.s (s1.mono e2.h) s2 Q fun u F3 H3 e3 s3 => q u F3 H3 ((e1.trans e2).trans e3) s3
/-- .. the values told, the heap as it was -/
theorem evd_op0 {r : R2} {z : PyData} {u : V} (ha : EvR K ta Δ x) (hb : EvR K tb Δ y) (hu : ∀ F : Hp, Is K F u z) (hr : ∀ (v w : V) H, Is K H v x → Is K H w y → ∀ Q : VK, Q u H → r v w H Q) :
    EvD K (tOp r ta tb) Δ z := evd_op2 ha hb fun v w F H s h1 h2 Q q => hr v w H h1 h2 Q (q u F H (.refl s) (hu F))
theorem evd_add (ha : EvR K ta Δ (.int i)) (hb : EvR K tb Δ (.int j)) : EvD K (tOp (rI0 fun i j => .int (i + j)) ta tb) Δ (.int (i + j)) :=
  evd_op0 ha hb (fun _ => .int _) fun v w H h1 h2 Q q => ⟨i, j, h1.int_inv, h2.int_inv, q⟩
theorem evd_sub (ha : EvR K ta Δ (.int i)) (hb : EvR K tb Δ (.int j)) : EvD K (tOp (rI0 fun i j => .int (i - j)) ta tb) Δ (.int (i - j)) :=
  evd_op0 ha hb (fun _ => .int _) fun v w H h1 h2 Q q => ⟨i, j, h1.int_inv, h2.int_inv, q⟩
theorem evd_mul (ha : EvR K ta Δ (.int i)) (hb : EvR K tb Δ (.int j)) (hc : CMul i j) : EvD K (tOp (rI CMul fun i j => .int (i * j)) ta tb) Δ (.int (i * j)) :=
  evd_op0 ha hb (fun _ => .int _) fun v w H h1 h2 Q q => ⟨i, j, h1.int_inv, h2.int_inv, hc, q⟩
theorem evd_fdiv (ha : EvR K ta Δ (.int i)) (hb : EvR K tb Δ (.int j)) (hc : CDiv i j) : EvD K (tOp (rI CDiv fun i j => .int (i / j)) ta tb) Δ (.int (i / j)) :=
  evd_op0 ha hb (fun _ => .int _) fun v w H h1 h2 Q q => ⟨i, j, h1.int_inv, h2.int_inv, hc, q⟩
theorem evd_mod (ha : EvR K ta Δ (.int i)) (hb : EvR K tb Δ (.int j)) (hc : 0 < j) : EvD K (tOp (rI (fun _ j => 0 < j) fun i j => .int (i % j)) ta tb) Δ (.int (i % j)) :=
  evd_op0 ha hb (fun _ => .int _) fun v w H h1 h2 Q q => ⟨i, j, h1.int_inv, h2.int_inv, hc, q⟩
theorem evd_pow (ha : EvR K ta Δ (.int i)) (hb : EvR K tb Δ (.int j)) (hc : CPow i j) : EvD K (tOp (rI CPow fun i j => .int (i ^ j.toNat)) ta tb) Δ (.int (i ^ j.toNat)) :=
  evd_op0 ha hb (fun _ => .int _) fun v w H h1 h2 Q q => ⟨i, j, h1.int_inv, h2.int_inv, hc, q⟩
theorem evd_neg (ha : EvR K ta Δ (.int i)) : EvD K (tUn (rU fun i => .int (-i)) ta) Δ (.int (-i)) := fun F0 H0 F H σ m Q q =>
  ha F0 H0 F H σ m _ fun v F1 H1 e1 s1 => ⟨i, s1.int_inv, q _ F1 H1 e1 (.int _)⟩
theorem evd_lt (ha : EvR K ta Δ (.int i)) (hb : EvR K tb Δ (.int j)) : EvD K (tOp (rI0 fun i j => .bl (decide (i < j))) ta tb) Δ (.bool (decide (i < j))) :=
  evd_op0 ha hb (fun _ => .bl _) fun v w H h1 h2 Q q => ⟨i, j, h1.int_inv, h2.int_inv, q⟩
theorem evd_le (ha : EvR K ta Δ (.int i)) (hb : EvR K tb Δ (.int j)) : EvD K (tOp (rI0 fun i j => .bl (decide (i ≤ j))) ta tb) Δ (.bool (decide (i ≤ j))) :=
  evd_op0 ha hb (fun _ => .bl _) fun v w H h1 h2 Q q => ⟨i, j, h1.int_inv, h2.int_inv, q⟩
theorem evd_gt (ha : EvR K ta Δ (.int i)) (hb : EvR K tb Δ (.int j)) : EvD K (tOp (rI0 fun i j => .bl (decide (j < i))) ta tb) Δ (.bool (decide (j < i))) :=
  evd_op0 ha hb (fun _ => .bl _) fun v w H h1 h2 Q q => ⟨i, j, h1.int_inv, h2.int_inv, q⟩
theorem evd_ge (ha : EvR K ta Δ (.int i)) (hb : EvR K tb Δ (.int j)) : EvD K (tOp (rI0 fun i j => .bl (decide (j ≤ i))) ta tb) Δ (.bool (decide (j ≤ i))) :=
  evd_op0 ha hb (fun _ => .bl _) fun v w H h1 h2 Q q => ⟨i, j, h1.int_inv, h2.int_inv, q⟩
/-- a op b op' c of ints -/
theorem evd_chain {p p' : Int → Int → Bool} (ha : EvR K ta Δ (.int i)) (hb : EvR K tb Δ (.int j)) (hc : EvR K tc Δ (.int k)) :
    EvD K (tChain (rI0 fun i j => .bl (p i j)) (rI0 fun i j => .bl (p' i j)) ta tb tc) Δ (.bool (p i j && p' j k)) := fun F0 H0 F H σ m Q q =>
  ha F0 H0 F H σ m _ fun v F1 H1 e1 s1 => hb F0 H0 F1 H1 σ (m.step e1) _ fun w F2 H2 e2 s2 => ⟨i, j, s1.int_inv, s2.int_inv, p i j, rfl, by
    cases hp : p i j with
    | false => exact iteF (q _ F2 H2 (e1.trans e2) (by rw [hp]; exact .bl _))
    | true => exact iteT (hc F0 H0 F2 H2 σ (m.step (e1.trans e2)) _ fun u F3 H3 e3 s3 => ⟨j, k, s2.int_inv, s3.int_inv, q _ F3 H3 ((e1.trans e2).trans e3) (by rw [hp]; exact .bl _)⟩)⟩
/-! ### tests -/
theorem evt_test {b : Bool} (h : EvR K te Δ (.bool b)) : EvT K (tTest te) Δ b := fun F0 H0 F H σ m Q q => h F0 H0 F H σ m _ fun v F' H' e s => ⟨b, s.bl_inv, q F' H' e⟩
theorem evt_B {b : Bool} (h : EvR K te Δ (.bool b)) : EvT K (tB te) Δ b := fun F0 H0 F H σ m Q q => h F0 H0 F H σ m _ fun v F' H' e s => ⟨b, s.bl_inv, q F' H' e⟩
theorem evt_and {t u : TT} {a b : Bool} (h1 : EvT K t Δ a) (h2 : a = true → EvT K u Δ b) : EvT K (tAnd t u) Δ (a && b) := fun F0 H0 F H σ m Q q => h1 F0 H0 F H σ m _ fun F1 H1 e1 => by
  cases a with
  | true => exact iteT (h2 rfl F0 H0 F1 H1 σ (m.step e1) Q fun F2 H2 e2 => q F2 H2 (e1.trans e2))
  | false => exact iteF (q F1 H1 e1)
theorem evt_or {t u : TT} {a b : Bool} (h1 : EvT K t Δ a) (h2 : a = false → EvT K u Δ b) : EvT K (tOr t u) Δ (a || b) := fun F0 H0 F H σ m Q q => h1 F0 H0 F H σ m _ fun F1 H1 e1 => by
  cases a with
  | false => exact iteF (h2 rfl F0 H0 F1 H1 σ (m.step e1) Q fun F2 H2 e2 => q F2 H2 (e1.trans e2))
  | true => exact iteT (q F1 H1 e1)
theorem evt_not {t : TT} {a : Bool} (h : EvT K t Δ a) : EvT K (tNot t) Δ (!a) := fun F0 H0 F H σ m Q q => h F0 H0 F H σ m _ fun F1 H1 e1 => q F1 H1 e1
theorem evd_and {a b : Bool} (h1 : EvR K ta Δ (.bool a)) (h2 : a = true → EvR K tb Δ (.bool b)) : EvD K (tAndV ta tb) Δ (.bool (a && b)) := fun F0 H0 F H σ m Q q => h1 F0 H0 F H σ m _ fun v F1 H1 e1 s1 => ⟨a, s1.bl_inv, by
  cases a with
  | true => exact iteT (h2 rfl F0 H0 F1 H1 σ (m.step e1) Q fun w F2 H2 e2 s2 => by rw [s2.bl_inv]; exact q _ F2 H2 (e1.trans e2) (.bl _))
  | false => exact iteF (q _ F1 H1 e1 (.bl _))⟩
theorem evd_or {a b : Bool} (h1 : EvR K ta Δ (.bool a)) (h2 : a = false → EvR K tb Δ (.bool b)) : EvD K (tOrV ta tb) Δ (.bool (a || b)) := fun F0 H0 F H σ m Q q => h1 F0 H0 F H σ m _ fun v F1 H1 e1 s1 => ⟨a, s1.bl_inv, by
  cases a with
  | false => exact iteF (h2 rfl F0 H0 F1 H1 σ (m.step e1) Q fun w F2 H2 e2 s2 => by rw [s2.bl_inv]; exact q _ F2 H2 (e1.trans e2) (.bl _))
  | true => exact iteT (q _ F1 H1 e1 (.bl _))⟩
theorem evd_not {a : Bool} (h1 : EvR K ta Δ (.bool a)) : EvD K (tNotV ta) Δ (.bool (!a)) := fun F0 H0 F H σ m Q q => h1 F0 H0 F H σ m _ fun v F1 H1 e1 s1 => ⟨a, s1.bl_inv, q _ F1 H1 e1 (.bl _)⟩
theorem evd_if {t : TT} {b : Bool} (h : EvT K t Δ b) (h1 : b = true → EvD K ta Δ d) (h2 : b = false → EvD K tb Δ d) : EvD K (tIf t ta tb) Δ d := fun F0 H0 F H σ m Q q => h F0 H0 F H σ m _ fun F1 H1 e1 => by
  cases b with
  | true => exact iteT (h1 rfl F0 H0 F1 H1 σ (m.step e1) Q fun w F2 H2 e2 s2 => q w F2 H2 (e1.trans e2) s2)
  | false => exact iteF (h2 rfl F0 H0 F1 H1 σ (m.step e1) Q fun w F2 H2 e2 s2 => q w F2 H2 (e1.trans e2) s2)
theorem evd_if2 {t : TT} {b : Bool} {d1 d2 : PyData} (h : EvT K t Δ b) (h1 : EvD K ta Δ d1) (h2 : EvD K tb Δ d2) : EvD K (tIf t ta tb) Δ (if b = true then d1 else d2) :=
  evd_if h (fun e => by rw [if_pos e]; exact h1) (fun e => by rw [if_neg (by rw [e]; decide)]; exact h2)

/-! ### == -/
def isNone : PyData → Bool
  | .none => true
  | _ => false
theorem Is.isN {H : Hp} {v : V} (h : Is K H v d) : decide (v = .non) = isNone d := by
  cases h <;> rfl
theorem evd_isN (ha : EvR K ta Δ d) : EvD K (tOp (fun x y H Q => y = .non ∧ Q (.bl (decide (x = .non))) H) ta (tC .non)) Δ (.bool (isNone d)) := fun F0 H0 F H σ m Q q =>
  ha F0 H0 F H σ m _ fun v F1 H1 e1 s1 => ⟨rfl, by rw [s1.isN]; exact q _ F1 H1 e1 (.bl _)⟩
theorem evd_notN (ha : EvR K ta Δ d) : EvD K (tOp (fun x y H Q => y = .non ∧ Q (.bl (!decide (x = .non))) H) ta (tC .non)) Δ (.bool (!isNone d)) := fun F0 H0 F H σ m Q q =>
  ha F0 H0 F H σ m _ fun v F1 H1 e1 s1 => ⟨rfl, by rw [s1.isN]; exact q _ F1 H1 e1 (.bl _)⟩
/-- data that == may be asked of -/
def okD (d : PyData) : Bool := noD d && SeqAt.shaped d
theorem evd_eqD (ha : EvR K ta Δ x) (hb : EvR K tb Δ y) (hx : okD x = true) (hy : okD y = true) (hK : K' = K := by rfl) : EvD K (tOp (rEqD K') ta tb) Δ (.bool (PyData.eqv x y)) := by
  subst hK
  have h1 := Bool.and_eq_true_iff.mp hx
  have h2 := Bool.and_eq_true_iff.mp hy
  exact evd_op0 ha hb (fun _ => .bl _) fun v w H s1 s2 Q q => ⟨x, y, Is.dp x v h1.1 s1, Is.dp y w h2.1 s2, h1.2, h2.2, q⟩
theorem evd_neD (ha : EvR K ta Δ x) (hb : EvR K tb Δ y) (hx : okD x = true) (hy : okD y = true) (hK : K' = K := by rfl) : EvD K (tOp (rNeD K') ta tb) Δ (.bool (!PyData.eqv x y)) := by
  subst hK
  have h1 := Bool.and_eq_true_iff.mp hx
  have h2 := Bool.and_eq_true_iff.mp hy
  exact evd_op0 ha hb (fun _ => .bl _) fun v w H s1 s2 Q q => ⟨x, y, Is.dp x v h1.1 s1, Is.dp y w h2.1 s2, h1.2, h2.2, q⟩

/-! ### arguments -/
theorem eva_nil : EvA K tNil Δ [] := fun F0 H0 F H σ m Q q => q _ F H (.refl m.s) .nil
theorem eva_cons {tr : TA} {ds : List PyData} (h : EvD K ta Δ d) (hr : EvA K tr Δ ds) : EvA K (tCons ta tr) Δ (d :: ds) := fun F0 H0 F H σ m Q q =>
  h F0 H0 F H σ m _ fun v F1 H1 e1 s1 => hr F0 H0 F1 H1 σ (m.step e1) _ fun vs F2 H2 e2 s2 => q _ F2 H2 (e1.trans e2) (.cons (s1.mono e2.f) s2)
theorem evb_nil : EvB K tNil Δ [] := fun F0 H0 F H σ m Q q => q _ F H (.refl m.s) .nil
theorem evb_cons {tr : TA} {ds : List PyData} (h : EvR K ta Δ d) (hr : EvB K tr Δ ds) : EvB K (tCons ta tr) Δ (d :: ds) := fun F0 H0 F H σ m Q q =>
  h F0 H0 F H σ m _ fun v F1 H1 e1 s1 => hr F0 H0 F1 H1 σ (m.step e1) _ fun vs F2 H2 e2 s2 => q _ F2 H2 (e1.trans e2) (.cons (s1.mono e2.h) s2)
theorem evi_none : EvI K tNoPart Δ none := fun F0 H0 F H σ m Q q => q F H (.refl m.s)
theorem evi_some (h : EvR K te Δ (.int i)) : EvI K (tPart te) Δ (some i) := fun F0 H0 F H σ m Q q => h F0 H0 F H σ m _ fun v F1 H1 e1 s1 => ⟨i, s1.int_inv, q F1 H1 e1⟩

/-! ### new lists, new tuples -/
/-- what a new tuple's reading asks -/
def NewT (H : Hp) (xs : List V) (Q : VK) : Prop := ∀ (p : Addr) (o : Obj), H p = none → o.dict = none → Q (.ref p) (upd H p (.frz o (.tup xs)))
def tTupF (t : TA) : TE := fun σ H Q => t σ H fun xs H1 => xs.length ≤ sizeLine ∧ NewT H1 xs Q
theorem small {n : Nat} (h : n ≤ 100000) : n ≤ sizeLine := Nat.le_trans h (by decide)
theorem smaller {n : Nat} (h : n < 100000) : n < sizeLine := Nat.lt_of_lt_of_le h (by decide)
theorem newT {F H : Hp} {xs : List V} {ds : List PyData} {Q : VK} (s : Ex F H) (h : IsAll K F xs ds) (q : ∀ v F' H', Ext F H F' H' → Is K F' v (.tuple ds) → Q v H') : NewT H xs Q := fun p o hp hd =>
  q _ _ _ (.new s hp) (.tup (.inl ⟨o, hd, upd_same⟩) (h.mono (.new (s.free hp))))
theorem newO {F H : Hp} {xs : List V} {ds : List PyData} {Q : VK} (s : Ex F H) (h : IsAll K F xs ds)
    (q : ∀ p vs F' H', Ext F H F' H' → H p = none → F' p = none → H' p = some (.lst vs) → IsAll K F' vs ds → Q (.ref p) H') : ∀ p, H p = none → Q (.ref p) (upd H p (.lst xs)) := fun p hp =>
  q p xs F _ (.grow s (.new hp)) hp (s.free hp) upd_same h
theorem evd_tup {t : TA} {ds : List PyData} (h : EvA K t Δ ds) (hl : ds.length ≤ 100000) : EvD K (tTupF t) Δ (.tuple ds) := fun F0 H0 F H σ m Q q =>
  h F0 H0 F H σ m _ fun vs F1 H1 e1 s1 => ⟨by rw [s1.len]; exact small hl, newT e1.s s1 fun v F2 H2 e2 s2 => q v F2 H2 (e1.trans e2) s2⟩
theorem evo_lst {t : TA} {ds : List PyData} (h : EvA K t Δ ds) (hl : ds.length ≤ 100000) : EvO K (tLst t) Δ ds := fun F0 H0 F H σ m Q q =>
  h F0 H0 F H σ m _ fun vs F1 H1 e1 s1 => ⟨by rw [s1.len]; exact small hl, newO e1.s s1 fun p ws F2 H2 e2 hp hf h2 s2 => q p ws F2 H2 (e1.trans e2) (e1.h.free hp) hf h2 s2⟩

/-! ### items, len, slices -/
theorem IsAll.atI {H : Hp} {vs : List V} {ds : List PyData} (h : IsAll K H vs ds) {n : Nat} (hj : ixN ds.length i = some n) (hd : ds[n]? = some d) : ∃ v, L2.atI vs i = some v ∧ Is K H v d := by
  obtain ⟨v, h1, h2⟩ := h.get hd
  refine ⟨v, ?_, h2⟩
  unfold L2.atI
  rw [h.len, hj]
  exact h1
theorem ixN_nat {n j : Nat} (hj : j < n) : ixN n (j : Int) = some j := by
  unfold ixN
  rw [if_pos (by omega), if_pos (by omega), Int.toNat_natCast]
theorem ixN_of {n j : Nat} {i : Int} (e : i = (j : Int)) (hj : j < n) : ixN n i = some j := e ▸ ixN_nat hj
theorem evd_ixL {ds : List PyData} {n : Nat} (ha : EvD K ta Δ (.list ds)) (hb : EvR K tb Δ (.int i)) (hj : ixN ds.length i = some n) (hd : ds[n]? = some d) (hK : K' = K := by rfl) : EvD K (tOp (rIxL K') ta tb) Δ d := by
  subst hK
  intro F0 H0 F H σ m Q q
  refine ha F0 H0 F H σ m _ fun v F1 H1 e1 s1 => hb F0 H0 F1 H1 σ (m.step e1) _ fun w F2 H2 e2 s2 => ?_
  obtain ⟨a, xs, rfl, h1, h2⟩ := s1.lst_inv
  obtain ⟨u, h3, h4⟩ := h2.atI hj hd
  exact ⟨a, xs, i, u, rfl, s2.int_inv, .inl (.inl ((e1.s.trans e2.h) _ _ h1)), h3, q u F2 H2 (e1.trans e2) (h4.mono e2.f)⟩
theorem evd_ixT {ds : List PyData} {n : Nat} (ha : EvD K ta Δ (.tuple ds)) (hb : EvR K tb Δ (.int i)) (hj : ixN ds.length i = some n) (hd : ds[n]? = some d) (hK : K' = K := by rfl) : EvD K (tOp (rIxT K') ta tb) Δ d := by
  subst hK
  intro F0 H0 F H σ m Q q
  refine ha F0 H0 F H σ m _ fun v F1 H1 e1 s1 => hb F0 H0 F1 H1 σ (m.step e1) _ fun w F2 H2 e2 s2 => ?_
  obtain ⟨a, xs, rfl, h1, h2⟩ := s1.tup_inv
  obtain ⟨u, h3, h4⟩ := h2.atI hj hd
  exact ⟨a, xs, i, u, rfl, s2.int_inv, ((e1.s.trans e2.h).t h1).t, h3, q u F2 H2 (e1.trans e2) (h4.mono e2.f)⟩
/-- an item of a slot's own list -/
theorem evd_ixO {ds : List PyData} {n k : Nat} {a : Addr} (ha : Δ[k]? = some (some (.l a ds))) (hb : EvR K tb Δ (.int i)) (hj : ixN ds.length i = some n) (hd : ds[n]? = some d) (hK : K' = K := by rfl) : EvD K (tOp (rIxL K') (tVar k) tb) Δ d := by
  subst hK
  intro F0 H0 F H σ m Q q
  obtain ⟨v, h1, rfl, h2, h3, vs, h4, h5⟩ := m.ok k _ ha
  refine ⟨_, h1, hb F0 H0 F H σ m _ fun w F2 H2 e2 s2 => ?_⟩
  obtain ⟨u, h6, h7⟩ := h5.atI hj hd
  exact ⟨a, vs, i, u, rfl, s2.int_inv, .inl (.inl (e2.h _ _ h4)), h6, q u F2 H2 e2 (h7.mono e2.f)⟩
theorem evd_ixS {z : Str} {n c : Nat} (ha : EvR K ta Δ (.str z)) (hb : EvR K tb Δ (.int i)) (hz : z.length ≤ 100000) (hj : ixN z.cps.toList.length i = some n) (hd : z.cps.toList[n]? = some c) : EvD K (tOp rIxS ta tb) Δ (.str ⟨#[c]⟩) :=
  evd_op0 ha hb (fun _ => .str _) fun v w H h1 h2 Q q => ⟨z, i, c, h1.str_inv, h2.int_inv, small hz, by unfold L2.atI; rw [hj]; exact hd, q⟩
theorem evd_lenL {ds : List PyData} (ha : EvR K ta Δ (.list ds)) (hK : K' = K := by rfl) :
    EvD K (tCB (fun xs H Q => ∃ p ys, xs = [V.ref p] ∧ (SqL K' H p ys ∨ SqT K' H p ys) ∧ Q (.int ys.length) H) (tCons ta tNil)) Δ (.int (ds.length : Nat)) := by
  subst hK
  intro F0 H0 F H σ m Q q
  refine ha F0 H0 F H σ m _ fun v F1 H1 e1 s1 => ?_
  obtain ⟨a, xs, rfl, h1, h2⟩ := s1.lst_inv
  exact ⟨a, xs, rfl, .inl (.inl (.inl h1)), by rw [h2.len]; exact q _ F1 H1 e1 (.int _)⟩
theorem evd_lenT {ds : List PyData} (ha : EvR K ta Δ (.tuple ds)) (hK : K' = K := by rfl) :
    EvD K (tCB (fun xs H Q => ∃ p ys, xs = [V.ref p] ∧ (SqL K' H p ys ∨ SqT K' H p ys) ∧ Q (.int ys.length) H) (tCons ta tNil)) Δ (.int (ds.length : Nat)) := by
  subst hK
  intro F0 H0 F H σ m Q q
  refine ha F0 H0 F H σ m _ fun v F1 H1 e1 s1 => ?_
  obtain ⟨a, xs, rfl, h1, h2⟩ := s1.tup_inv
  exact ⟨a, xs, rfl, .inr h1.t, by rw [h2.len]; exact q _ F1 H1 e1 (.int _)⟩
theorem evd_lenS {z : Str} (ha : EvR K ta Δ (.str z)) (hz : z.length ≤ 100000) :
    EvD K (tCB (fun xs H Q => ∃ z : Str, xs = [V.str z] ∧ z.length ≤ sizeLine ∧ Q (.int z.length) H) (tCons ta tNil)) Δ (.int (z.length : Nat)) := by
  intro F0 H0 F H σ m Q q
  refine ha F0 H0 F H σ m _ fun v F1 H1 e1 s1 => ?_
  exact ⟨z, by rw [s1.str_inv], small hz, q _ F1 H1 e1 (.int _)⟩
/-- a cut of a list of data -/
def cutD (ds : List PyData) (lo hi : Option Int) : List PyData := (ds.drop (HT.sIx ds.length 0 lo)).take (HT.sIx ds.length ds.length hi - HT.sIx ds.length 0 lo)
theorem IsAll.cut {H : Hp} {vs : List V} {ds : List PyData} (h : IsAll K H vs ds) (lo hi : Option Int) : IsAll K H (cutV vs lo hi) (cutD ds lo hi) := by
  unfold cutV cutD
  rw [h.len]
  exact (h.drop _).take _
theorem evo_slL {ds : List PyData} {tl th : TO} {lo hi : Option Int} (ha : EvD K ta Δ (.list ds)) (hl : EvI K tl Δ lo) (hh : EvI K th Δ hi) (hK : K' = K := by rfl) : EvO K (tSl (rSlL K') ta tl th) Δ (cutD ds lo hi) := by
  subst hK
  intro F0 H0 F H σ m Q q
  refine ha F0 H0 F H σ m _ fun v F1 H1 e1 s1 => hl F0 H0 F1 H1 σ (m.step e1) _ fun F2 H2 e2 => hh F0 H0 F2 H2 σ (m.step (e1.trans e2)) _ fun F3 H3 e3 => ?_
  obtain ⟨a, xs, rfl, h1, h2⟩ := s1.lst_inv
  have E := e2.trans e3
  refine ⟨a, xs, rfl, .inl (.inl ((e1.s.trans E.h) _ _ h1)), newO E.s ((h2.mono E.f).cut lo hi) fun p ws F4 H4 e4 hp hf h4 s4 => q p ws F4 H4 (e1.trans (E.trans e4)) ((e1.trans E).h.free hp) hf h4 s4⟩
theorem evo_slO {ds : List PyData} {tl th : TO} {lo hi : Option Int} {k : Nat} {b : Addr} (ha : Δ[k]? = some (some (.l b ds))) (hl : EvI K tl Δ lo) (hh : EvI K th Δ hi) (hK : K' = K := by rfl) : EvO K (tSl (rSlL K') (tVar k) tl th) Δ (cutD ds lo hi) := by
  subst hK
  intro F0 H0 F H σ m Q q
  obtain ⟨v, h1, rfl, h2, h3, vs, h4, h5⟩ := m.ok k _ ha
  refine ⟨_, h1, hl F0 H0 F H σ m _ fun F2 H2 e2 => hh F0 H0 F2 H2 σ (m.step e2) _ fun F3 H3 e3 => ?_⟩
  have E := e2.trans e3
  refine ⟨b, vs, rfl, .inl (.inl (E.h _ _ h4)), newO E.s ((h5.mono E.f).cut lo hi) fun p ws F4 H4 e4 hp hf h4 s4 => q p ws F4 H4 (E.trans e4) (E.h.free hp) hf h4 s4⟩

/-! ### isinstance -/
def tyOf : PyData → String
  | .none => "NoneType"
  | .bool _ => "bool"
  | .int _ => "int"
  | .str _ => "str"
  | .list _ => "list"
  | .tuple _ => "tuple"
  | .dict [] => "dict"
  | .dict (_ :: _) => "list"
def isX : PyData → Bool
  | .dict ((.bool _, _) :: _) => true
  | _ => false
theorem Is.ty {H : Hp} {v : V} (h : Is K H v d) (hx : isX d = false) : TyX K H v (.type (tyOf d)) := by
  cases h with
  | exc h => cases hx
  | non => exact .base .non
  | bl b => exact .base (.bl b)
  | int i => exact .base (.int i)
  | str z => exact .base (.str z)
  | lst h _ => exact .base (.lst h)
  | scr h =>
    rcases h with (h | ⟨o, h⟩) | ⟨o, _, _, h, c, _⟩
    · exact .base (.lst h)
    · exact .base (.frz h)
    · exact .kList h c
  | tup h _ =>
    rcases h with ⟨o, _, h⟩ | ⟨o, _, _, h, c, _⟩
    · exact .fTuple h
    · exact .kTuple h c
  | dct h => exact .base (.dK h)
theorem evd_isi {n : String} {b : Bool} (ha : EvR K ta Δ d) (hb : kitB (tyOf d) n = some b) (hx : isX d = false := by rfl) (hK : K' = K := by rfl) : EvD K (tCB (rIsi K') (tCons ta (tCons (tC (.ty n)) tNil))) Δ (.bool b) := by
  subst hK
  intro F0 H0 F H σ m Q q
  refine ha F0 H0 F H σ m _ fun v F1 H1 e1 s1 => ?_
  exact ⟨v, .ty n, .type (tyOf d), .type n, b, rfl, .ty n, s1.ty hx, kit_ty hb, q _ F1 H1 e1 (.bl b)⟩

/-! ### built-ins of lists and ints -/
theorem evd_int1 {b : Bool} (ha : EvR K ta Δ (.bool b)) : EvD K (tCB (fun xs H Q => (∃ i, xs = [V.int i] ∧ Q (.int i) H) ∨ ∃ k, xs = [V.bl k] ∧ Q (.int (if k then 1 else 0)) H) (tCons ta tNil)) Δ (.int (if b then 1 else 0)) := fun F0 H0 F H σ m Q q =>
  ha F0 H0 F H σ m _ fun v F1 H1 e1 s1 => .inr ⟨b, by rw [s1.bl_inv], q _ F1 H1 e1 (.int _)⟩
theorem IsAll.ints {H : Hp} : ∀ {ns : List Int} {vs : List V}, IsAll K H vs (ns.map PyData.int) → vs = ns.map V.int
  | [], _, .nil => rfl
  | n :: ns, _, .cons h t => by rw [h.int_inv, IsAll.ints t]; rfl
theorem IsAll.bools {H : Hp} : ∀ {ns : List Bool} {vs : List V}, IsAll K H vs (ns.map PyData.bool) → vs = ns.map V.bl
  | [], _, .nil => rfl
  | n :: ns, _, .cons h t => by rw [h.bl_inv, IsAll.bools t]; rfl
theorem IsAll.strs {H : Hp} : ∀ {ns : List Str} {vs : List V}, IsAll K H vs (ns.map PyData.str) → vs = ns.map V.str
  | [], _, .nil => rfl
  | n :: ns, _, .cons h t => by rw [h.str_inv, IsAll.strs t]; rfl
theorem isInts (H : Hp) : ∀ ns : List Int, IsAll K H (ns.map V.int) (ns.map PyData.int)
  | [] => .nil
  | n :: ns => .cons (.int n) (isInts H ns)
theorem isStrs (H : Hp) : ∀ ns : List Str, IsAll K H (ns.map V.str) (ns.map PyData.str)
  | [] => .nil
  | n :: ns => .cons (.str n) (isStrs H ns)
end
end Dx

set_option Elab.async false
set_option linter.all false
set_option maxRecDepth 100000
set_option maxHeartbeats 4000000
/-! Dx3: rules of my own for tuples that keep their object, for sorted, min, index. -/
namespace Dx
open PySem PySem.Spec PyProof.Rows L2
section
variable {X : Cx} {e : Expr} {es : List Expr} {t : TA} {pos : Pos}
theorem frz_ok {P : Program} {w : World} {H : Hp} {h : Heap} {p : Addr} {xs : List V} {its : List Value} (hl : xs.length ≤ sizeLine) (r : Vals xs its) (e : h.get? p = some { cls := .type "tuple", data := .seq its.toArray }) :
    ObjOk P w H h p (.frz { cls := .type "tuple", data := .seq its.toArray } (.tup xs)) := ⟨e, hl, its, r, ⟨_, e, rfl, _, rfl⟩⟩
/-- a tuple that has just been laid -/
theorem laidT {pins : List (Addr × Obj)} {σ : L2.St} {H : Hp} {s : Shared} {xs : List V} {its : List Value} {Q : VK} {tk : Nat} (I : Inv X pins σ H s) (hl : xs.length ≤ sizeLine) (r : Vals xs its) (q : NewT H xs Q) :
    EP X pins σ Q (.ref s.heap.objs.size) { s with heap := s.heap.push { cls := .type "tuple", data := .seq its.toArray }, toks := tk } :=
  ⟨.ref s.heap.objs.size, _, I.laid (fun b u z => Heap.get?_push_of_some _ z) (Nat.le_refl _) (frz_ok hl r (Heap.get?_push_size _ rfl)), rfl, q _ _ (I.hok.fresh (Nat.le_refl _)) rfl⟩
theorem pe_tupF {x1} (h : PA X es t) : PE X (.Tuple es x1 pos) (tTupF t) :=
  ⟨fun pins s σ H Q I hq => wpAny_Tuple_spliced (thn (h.run pos pins s σ H _ I hq) fun us s1 ⟨xs, H1, I1, r, z, q⟩ => ⟨by rw [← r.length]; exact z, laidT (tk := s1.toks) I1 z r q⟩)⟩
/-- tuple(xs) of a list; of a tuple: itself -/
def rTupF (K : PySem.W.Frag) : List V → Hp → VK → Prop := fun xs H Q => ∃ p ys, xs = [.ref p] ∧ ((SqL K H p ys ∧ NewT H ys Q) ∨ (SqT K H p ys ∧ Q (.ref p) H))
theorem call_tupF : CallR X (.type "tuple") (rTupF X.K) := by
  intro pins s σ H xs us Q I r h
  obtain ⟨p, ys, rfl, h⟩ := h
  obtain ⟨u, rfl, rx⟩ := vals1 r
  cases rx
  rcases h with ⟨hq, q⟩ | ⟨hq, q⟩
  · obtain ⟨its, r', pl, hz⟩ := I.list hq
    have hn := r'.length
    refine call_tuple_list pl.isList (fun h' kp => ?_) (by rw [List.size_toArray]; omega)
    exact laidT (s := { s with heap := h' }) (I.kept (t' := s.toks) kp) hz r' q
  · obtain ⟨its, r', pl, hz⟩ := I.tuple hq
    exact call_tuple_same pl ⟨.ref p, H, I, rfl, q⟩
/-- tuple(range(..)) -/
def tTupRgF (te : L2.St → Hp → (Int → Int → Hp → Prop) → Prop) : TE := fun σ H Q => te σ H fun a b H1 => RgOk a b ∧ NewT H1 (rgV a b) Q
theorem pe_tupRgF {te : L2.St → Hp → (Int → Int → Hp → Prop) → Prop} {p : Pos} (hc : X.calm = true) (hg : Gl X "tuple") (hm : X.mg "tuple" = none) (he : PRg X e te) (na : starEach [e] X.env = (false, eval e X.env) :: starEach [] X.env := by rfl) :
    PE X (.Call (.Name "tuple" p) [e] [] pos) (tTupRgF te) := by
  refine ⟨fun pins s σ H Q I h => Call_ (ld_blt I hg hm boot_tuple (PyProof.Rows.callWith_type1 (args_cons (thn (he pins s σ H _ I h) fun x s1 ⟨r, a, b, t, u, v, H1, ex, hr, I1, ok, q⟩ => args_nil ?_) na) na))⟩
  subst ex
  obtain ⟨b1, b2, b3, b4, b5⟩ := ok
  refine call_tuple_range (n := (b - a).toNat) (I1.ok.hd hc) hr (small_one b1 b2 b3 b4) (rangeSize_nat a b) b5 fun h' tk acc hk hi => ?_
  have z : (rgV a b).length ≤ sizeLine := by rw [rgV_length, sizeLine_eq]; omega
  have w := laidT (X := X) (s := { s1 with heap := h', toks := tk }) (tk := tk) (I1.kept hk) z (vals_rg hi) q
  rw [Array.toArray_toList] at w
  exact w
/-- t + u -/
def rCatF (K : PySem.W.Frag) : R2 := fun x y H Q => ∃ a b xs ys, x = .ref a ∧ y = .ref b ∧ SqT K H a xs ∧ SqT K H b ys ∧ xs.length + ys.length ≤ sizeLine ∧
  (xs = [] → Q (.ref b) H) ∧ (xs ≠ [] → ys = [] → Q (.ref a) H) ∧ (xs ≠ [] → ys ≠ [] → NewT H (xs ++ ys) Q)
theorem op_catF : OpR X (binaryOp .Add) (rCatF X.K) := by
  intro pins s σ H x y v u Q I rx ry h
  obtain ⟨a, b, xs, ys, rfl, rfl, ha, hb, hz, q0, q1, q2⟩ := h
  cases rx; cases ry
  obtain ⟨i1, r1, p1, _⟩ := I.tuple ha
  obtain ⟨i2, r2, p2, _⟩ := I.tuple hb
  have n1 := r1.length
  have n2 := r2.length
  by_cases hx : xs = []
  · subst hx
    cases r1
    exact cat_tup0 p1 p2 ⟨.ref b, H, I, rfl, q0 rfl⟩
  · have hv : i1 ≠ [] := fun z => hx (r1.nil_iff.mp z)
    refine HT.cat_tup p1 p2 hv (fun z => ⟨.ref a, H, I, rfl, q1 hx (r2.nil_iff.mp z)⟩) (fun z => ?_) (by omega)
    exact laidT (tk := s.toks) I (by rw [List.length_append]; exact hz) (r1.append r2) (q2 hx fun w => z (r2.nil_iff.mpr w))
/-- t[lo:hi] -/
def rSlF (K : PySem.W.Frag) : V → Option Int → Option Int → Hp → VK → Prop := fun x lo hi H Q => ∃ a xs, x = .ref a ∧ SqT K H a xs ∧
  (HT.sIx xs.length 0 lo = 0 ∧ HT.sIx xs.length xs.length hi = xs.length → Q (.ref a) H) ∧ (¬ (HT.sIx xs.length 0 lo = 0 ∧ HT.sIx xs.length xs.length hi = xs.length) → NewT H (cutV xs lo hi) Q)
theorem sl_tupF : SlR X (rSlF X.K) := by
  intro pins s σ H x v vl vu lo hi sl Q I rx hs pl pu h
  obtain ⟨a, xs, rfl, hx, q1, q2⟩ := h
  cases rx
  obtain ⟨its, r, ht, hz⟩ := I.tuple hx
  have hn : its.toArray.size = xs.length := by rw [List.size_toArray]; exact r.length.symm
  refine ⟨"tuple", _, PyProof.Rows.slot_tuple_getitem.lookup, ht.typeIs, ?_⟩
  by_cases hw : HT.sIx xs.length 0 lo = 0 ∧ HT.sIx xs.length xs.length hi = xs.length
  · exact getItem_tuple_whole ht hs pl pu (by rw [hn]; exact hw) ⟨.ref a, H, I, rfl, q1 hw⟩
  · refine HT.getItem_tuple_cut ht hs pl pu (by rw [hn]; exact hw) ?_ (by rw [hn]; exact hz)
    rw [hn]
    exact laidT (tk := s.toks) I (Nat.le_trans (cutV_length xs lo hi) hz) ((r.drop _).take _) (q2 hw)

/-! ### t.index(k), t a tuple of ints -/
def rTupIx (K : PySem.W.Frag) : V → List V → Hp → VK → Prop := fun x xs H Q => ∃ (p : Addr) (ns : List Int) (k : Int), x = .ref p ∧ xs = [.int k] ∧ SqT K H p (ns.map V.int) ∧ k ∈ ns ∧ Q (.int (ns.idxOf k : Nat)) H
theorem mt_tupIx : MtR X "tuple.index" (rTupIx X.K) := by
  intro pins s σ H x xs v us Q I rx rs h
  obtain ⟨p, ns, k, rfl, rfl, hp, hk, q⟩ := h
  cases rx
  obtain ⟨u, rfl, t, rfl⟩ := vals1 rs
  obtain ⟨its, r, pl, _⟩ := I.tuple hp
  exact PySem.SeqAt.tuple_index_ints pl (intsAre_of r) hk ⟨.int (ns.idxOf k : Nat), H, I.tok _, ⟨_, rfl⟩, q⟩
/-- o.m(e), o a tuple whose object is known -/
def tBT (K : PySem.W.Frag) (r : V → List V → Hp → VK → Prop) (to : TE) (t : TA) : TE := fun σ H Q => to σ H fun x H1 => (∃ a xs, x = .ref a ∧ SqF K H1 a xs) ∧ t σ H1 fun ys H2 => r x ys H2 Q
theorem pe_bt {o : Expr} {to : TE} {name : Str} {apos cpos : Pos} {id : String} {r : V → List V → Hp → VK → Prop} (slot : Slot "tuple" name id) (hty : typeOf (.builtin id) = pure (.type "method_descriptor")) (hm : MtR X id r) (ho : PE X o to) (ha : PA X [e] t)
    (hbase : attributeBase o name X.env (eval o X.env) = eval o X.env := by rfl)
    (hfew : ((backTo cpos (starEach [e] X.env)).all (fun x => !x.1) && (backToKw cpos (keywordEach [] X.env)).all (fun x => x.1.isSome)
      && decide ([e].length + ([] : List Keyword).length + (if ([] : List Keyword).isEmpty then 0 else 1) < 30)) = true := by rfl)
    (hline : (apos.endLine == cpos.line) = true := by rfl) (hs : starEach [e] X.env = (false, eval e X.env) :: starEach [] X.env := by rfl) :
    PE X (.Call (.Attribute o name apos) [e] [] cpos) (tBT X.K r to t) := by
  refine ⟨fun pins s σ H Q I h => wpAny_Call_method_late hbase hfew hline rfl (thn (ho.run pins s σ H _ I h) fun v s1 ⟨x, H1, I1, r1, ⟨a, xs, ex, hq⟩, q1⟩ => ?_)⟩
  subst ex
  cases r1
  obtain ⟨its, _, pl, _⟩ := I1.tuple hq.t
  have hd : ∀ b, Value.ref a = .ref b → ∃ ob, s1.heap.get? b = some ob ∧ ob.dict = none := fun b z => by
    cases z
    rcases hq with ⟨o, d, z⟩ | ⟨o, _, _, z, _, d, _⟩
    · obtain ⟨g, _⟩ := (show ObjOk X.prog X.w H1 s1.heap a (.frz o (.tup xs)) from I1.hok a _ z)
      exact ⟨o, g, d⟩
    · exact ⟨o, I1.kIn a o z, d⟩
  refine ⟨"tuple", id, PySem.F.plainAttrs_tuple, slot, hty, pl.typeIs, hd, ?_⟩
  have hA := ha.run cpos pins s1 σ H1 _ I1 q1
  rw [hs] at hA ⊢
  refine Calls.callWith_builtin (by rfl) (Calls.evalArgs_plain (thn hA fun us s2 ⟨vs, H2, I2, r2, q2⟩ => hm pins s2 σ H2 (.ref a) vs _ us Q I2 rfl r2 q2))

/-! ### sorted of a list or a tuple of alike data -/
/-- the data and the values beside it -/
def rSortD (K : PySem.W.Frag) : List V → Hp → VK → Prop := fun xs H Q => ∃ (p : Addr) (bs : List (V × PyData)), xs = [.ref p] ∧ (SqL K H p (bs.map Prod.fst) ∨ SqT K H p (bs.map Prod.fst)) ∧ (∀ b ∈ bs, Dp K H b.1 b.2 ∧ b.2.depth ≤ 20) ∧
  PySem.W.AllAlike (bs.map Prod.snd) ∧ PySem.W.Sortable (bs.map Prod.snd) ∧ ∀ l, H l = none → Q (.ref l) (upd H l (.lst ((bs.mergeSort (PySem.W.dataLe false Prod.snd)).map Prod.fst)))
theorem each_of {pins : List (Addr × Obj)} {σ : L2.St} {H : Hp} {s : Shared} (I : Inv X pins σ H s) : ∀ {bs : List (V × PyData)} {us : List Value}, Vals (bs.map Prod.fst) us → (∀ b ∈ bs, Dp X.K H b.1 b.2 ∧ b.2.depth ≤ 20) →
    PySem.W.EachIs (fun (v : Value) (b : V × PyData) => RelV b.1 v ∧ ∃ as, Reads s.heap v b.2 as) us bs
  | [], _, .nil, _ => .nil
  | b :: bs, _, .cons r t, h => by
    obtain ⟨as, q⟩ := Dp.reads I b.2 b.1 _ (h b List.mem_cons_self).1 r
    exact .cons ⟨r, as, q⟩ (each_of I t fun c hc => h c (List.mem_cons_of_mem _ hc))
theorem vals_of_each : ∀ {us : List Value} {bs : List (V × PyData)}, PySem.W.EachIs (fun (v : Value) (b : V × PyData) => RelV b.1 v) us bs → Vals (bs.map Prod.fst) us
  | _, _, .nil => .nil
  | _, _, .cons r t => .cons r (vals_of_each t)

/-- sorted of the items of a list or a tuple, alike data -/
theorem sorted_seq {prog : Program} {w : World} {A : Around} {E : Value → Shared → Prop} {s : Shared} {l : Addr} {T : String} {o : Obj} {vs : List Value} {n : Nat} {Q : Value → Shared → Prop} {bs : List (V × PyData)} (hT : T = "list" ∨ T = "tuple")
    (ho : s.heap.get? l = some o) (hc : o.cls = .type T) (hd : o.data = .seq vs.toArray n) (he : PySem.W.EachIs (fun (v : Value) (b : V × PyData) => RelV b.1 v ∧ ∃ as, Reads s.heap v b.2 as) vs bs)
    (hal : PySem.W.AllAlike (bs.map Prod.snd)) (hk : PySem.W.Sortable (bs.map Prod.snd)) (hL : bs.length ≤ sizeLine) (hu : ∀ b ∈ bs, A.units + 4 + b.2.depth < cLine)
    (h : ∀ (h1 h' : Heap) out c, (∀ b o, s.heap.get? b = some o → h1.get? b = some o) → (∀ b o, h1.get? b = some o → h'.get? b = some o) → h'.get? h1.objs.size = some { cls := .type "list", data := .seq (List.toArray out) c } → Vals ((bs.mergeSort (PySem.W.dataLe false Prod.snd)).map Prod.fst) out → Q (.ref h1.objs.size) { s with heap := h' }) :
    wpAny (model prog w) A (call (.builtin "sorted") [.ref l]) Q E s := by
  have hn : vs.length = bs.length := he.length
  refine Calls.call_function_entry kind_sorted plain_sorted entry_sorted (args_sorted1 _) ?_
  unfold Builtin.«sorted»; refine wpAny_bind (m := checkCount "sorted" 1 1 _) (wpAny_pure (wpAny_bind (wpAny_collect_seq l hT ho hc hd (fun h1 k1 => ?_) (by rw [List.size_toArray]; omega))))
  refine wpAny_bind (wpAny_newList ?_ (by show vs.toArray.toList.length ≤ sizeLine; simp; omega))
  have hl : (h1.push { cls := .type "list", data := .seq vs.toArray.toList.toArray }).get? h1.objs.size = some { cls := .type "list", data := .seq vs.toArray 0 } := Heap.get?_push_size _ rfl
  have k2 : ∀ b u, s.heap.get? b = some u → (h1.push { cls := .type "list", data := .seq vs.toArray.toList.toArray }).get? b = some u := fun b u q => Heap.get?_push_of_some _ (k1 b u q)
  generalize hH : h1.push { cls := .type "list", data := .seq vs.toArray.toList.toArray } = h2 at hl k2
  have old : ∀ b u, s.heap.get? b = some u → (PySem.W.sortingHeap h2 h1.objs.size vs).get? b = some u := fun b u q =>
    PySem.W.sortingHeap_old (Nat.ne_of_lt (Heap.lt_size (k1 b u q))) (k2 b u q)
  have er : PySem.W.EachIs (fun (v : Value) (b : V × PyData) => ∃ as, Reads (PySem.W.sortingHeap h2 h1.objs.size vs) v b.2 as) vs bs := he.mono fun _ _ ⟨_, as, r⟩ => ⟨as, PyProof.Rows.Reads.keeps old r⟩
  have S := PySem.W.SortsAt.data (prog := prog) (w := w) (A := A.in1.in1) (s := { s with heap := PySem.W.sortingHeap h2 h1.objs.size vs }) (PySem.W.each_map (R := fun v d => ∃ as, Reads (PySem.W.sortingHeap h2 h1.objs.size vs) v d as) Prod.snd er) hal hk
    (PySem.W.bound_map (A := A.in1.in1) (enc := Prod.snd) fun b hb => by have := hu b hb; show A.units + 1 + 1 + b.2.depth < cLine; omega)
  have out := PySem.W.sortVals_data (R := fun (v : Value) (b : V × PyData) => RelV b.1 v) false (he.mono fun _ _ q => q.1) er hal
  refine wpAny_bind (wpAny_holding (wpAny_call_entry slot_list_sort ⟨_, hl, rfl⟩ entry_list_sort (PySem.W.list_sort_vals hl S (by omega) ⟨_, rfl, ?_⟩) (args_list_sort _)))
  obtain ⟨c, hc'⟩ := sortedHeap_at (out := (PySem.W.sortVals (PySem.W.dataKind (PySem.W.sortingHeap h2 h1.objs.size vs) (bs.map Prod.snd)) false vs vs).toArray) hl
  refine wpAny_pure ⟨_, rfl, h h1 _ _ c k1 (fun b u q => ?_) hc' (vals_of_each out)⟩
  have q2 : h2.get? b = some u := by rw [← hH]; exact Heap.get?_push_of_some _ q
  exact (sortedHeap_old (Nat.ne_of_lt (Heap.lt_size q)) (Heap.lt_size q2)).trans q2
theorem cr_sortD (hu : X.A.units + 64 < cLine) : CallR X (.builtin "sorted") (rSortD X.K) := by
  intro pins s σ H xs us Q I r h
  obtain ⟨p, bs, rfl, hq, hd, hal, hk, q⟩ := h
  obtain ⟨u, rfl, ru⟩ := vals1 r
  cases ru
  have fin : ∀ (its : List Value) (T : String) (o : Obj) (n : Nat), (T = "list" ∨ T = "tuple") → Vals (bs.map Prod.fst) its → s.heap.get? p = some o → o.cls = .type T → o.data = .seq its.toArray n → bs.length ≤ sizeLine →
      wpAny (model X.prog X.w) X.A (call (.builtin "sorted") [.ref p]) (EP X pins σ Q) X.xe s := fun its T o n hT rv ho hc hdt hz =>
    sorted_seq hT ho hc hdt (each_of I rv hd) hal hk hz (fun b hb => by have := (hd b hb).2; omega) fun h1 h' out c k1 k2 g vo =>
      have I1 : Inv X pins σ H { s with heap := h1 } := I.kept (t' := s.toks) k1
      ⟨.ref h1.objs.size, _, I1.laid (t' := s.toks) k2 (Nat.le_refl _) (show ObjOk X.prog X.w _ h' h1.objs.size (.lst _) from ⟨by rw [List.length_map, List.length_mergeSort]; exact hz, out, c, vo, g⟩), rfl, q h1.objs.size (I1.hok.fresh (Nat.le_refl _))⟩
  rcases hq with hq | hq
  · obtain ⟨its, r', pl, hz⟩ := I.list hq
    obtain ⟨o, ho, hc, n, hdt⟩ := pl.isList
    exact fin its "list" o n (.inl rfl) r' ho hc hdt (by rw [List.length_map] at hz; exact hz)
  · obtain ⟨its, r', ⟨o, ho, hc, n, hdt⟩, hz⟩ := I.tuple hq
    exact fin its "tuple" o n (.inr rfl) r' ho hc hdt (by rw [List.length_map] at hz; exact hz)
end
end Dx

set_option Elab.async false
set_option linter.all false
set_option maxRecDepth 100000
set_option maxHeartbeats 4000000
/-! Dx4: lists by place, comprehensions, calls, statements, loops, over data. -/
namespace Dx
open PySem L2

/-- a list, its own object or frozen, the items frozen -/
def EvL (K : PySem.W.Frag) (te : TE) (Δ : De) (xs : List PyData) : Prop := ∀ F0 H0 F H σ, M K F0 H0 F H σ Δ → ∀ Q : VK, (∀ p vs F' H', Ext F H F' H' → H' p = some (.lst vs) → IsAll K F' vs xs → Q (.ref p) H') → te σ H Q
section
variable {K K' : PySem.W.Frag} {Δ : De} {ta tb tc te : TE} {d x y : PyData} {i j k : Int} {xs ys ds : List PyData}
theorem evl_d (h : EvD K te Δ (.list xs)) : EvL K te Δ xs := fun F0 H0 F H σ m Q q => h F0 H0 F H σ m _ fun v F1 H1 e s => by
  obtain ⟨a, vs, rfl, h1, h2⟩ := s.lst_inv
  exact q a vs F1 H1 e (e.s _ _ h1) h2
theorem evl_o (h : EvO K te Δ xs) : EvL K te Δ xs := fun F0 H0 F H σ m Q q => h F0 H0 F H σ m _ fun p vs F1 H1 e _ _ h1 h2 => q p vs F1 H1 e h1 h2
theorem evl_var {n : Nat} {a : Addr} (h : Δ[n]? = some (some (.l a xs))) : EvL K (tVar n) Δ xs := fun F0 H0 F H σ m Q q => by
  obtain ⟨v, h1, rfl, h2, h3, vs, h4, h5⟩ := m.ok n _ h
  exact ⟨_, h1, q a vs F H (.refl m.s) h4 h5⟩
theorem evr_l (h : EvL K te Δ xs) : EvR K te Δ (.list xs) := fun F0 H0 F H σ m Q q => h F0 H0 F H σ m _ fun p vs F1 H1 e h1 h2 => q _ F1 H1 e (.lst h1 (h2.mono e.s))
theorem evl_eq (h : EvL K te Δ xs) (e : xs = ys) : EvL K te Δ ys := e ▸ h
theorem evd_ix {n : Nat} (ha : EvL K ta Δ xs) (hb : EvR K tb Δ (.int i)) (hj : ixN xs.length i = some n) (hd : xs[n]? = some d) (hK : K' = K := by rfl) : EvD K (tOp (rIxL K') ta tb) Δ d := by
  subst hK
  intro F0 H0 F H σ m Q q
  refine ha F0 H0 F H σ m _ fun p vs F1 H1 e1 h1 s1 => hb F0 H0 F1 H1 σ (m.step e1) _ fun w F2 H2 e2 s2 => ?_
  obtain ⟨u, h3, h4⟩ := s1.atI hj hd
  exact ⟨p, vs, i, u, rfl, s2.int_inv, .inl (.inl (e2.h _ _ h1)), h3, q u F2 H2 (e1.trans e2) (h4.mono e2.f)⟩
theorem evo_sl {tl th : TO} {lo hi : Option Int} (ha : EvL K ta Δ xs) (hl : EvI K tl Δ lo) (hh : EvI K th Δ hi) (hK : K' = K := by rfl) : EvO K (tSl (rSlL K') ta tl th) Δ (cutD xs lo hi) := by
  subst hK
  intro F0 H0 F H σ m Q q
  refine ha F0 H0 F H σ m _ fun p vs F1 H1 e1 h1 s1 => hl F0 H0 F1 H1 σ (m.step e1) _ fun F2 H2 e2 => hh F0 H0 F2 H2 σ (m.step (e1.trans e2)) _ fun F3 H3 e3 => ?_
  have E := e2.trans e3
  exact ⟨p, vs, rfl, .inl (.inl (E.h _ _ h1)), newO E.s ((s1.mono E.f).cut lo hi) fun r ws F4 H4 e4 hp hf h4 s4 => q r ws F4 H4 (e1.trans (E.trans e4)) ((e1.trans E).h.free hp) hf h4 s4⟩
/-- t[lo:hi] of a tuple -/
theorem cutD_all {n : Nat} {lo hi : Option Int} (h : HT.sIx ds.length 0 lo = 0 ∧ HT.sIx ds.length ds.length hi = ds.length) : cutD ds lo hi = ds := by
  unfold cutD
  rw [h.1, h.2, List.drop_zero, Nat.sub_zero, List.take_length]
theorem evd_slT {tl th : TO} {lo hi : Option Int} (ha : EvD K ta Δ (.tuple ds)) (hl : EvI K tl Δ lo) (hh : EvI K th Δ hi) (hK : K' = K := by rfl) : EvD K (tSl (rSlF K') ta tl th) Δ (.tuple (cutD ds lo hi)) := by
  subst hK
  intro F0 H0 F H σ m Q q
  refine ha F0 H0 F H σ m _ fun v F1 H1 e1 s1 => hl F0 H0 F1 H1 σ (m.step e1) _ fun F2 H2 e2 => hh F0 H0 F2 H2 σ (m.step (e1.trans e2)) _ fun F3 H3 e3 => ?_
  have E := e2.trans e3
  have s3 := s1.mono E.f
  obtain ⟨a, xs, rfl, h1, h2⟩ := s3.tup_inv
  refine ⟨a, xs, rfl, (E.s.t h1).t, fun w => ?_, fun _ => newT E.s (h2.cut lo hi) fun v F4 H4 e4 s4 => q v F4 H4 (e1.trans (E.trans e4)) s4⟩
  rw [h2.len] at w
  exact q _ F3 H3 (e1.trans E) (by rw [cutD_all (n := 0) w]; exact s3)
/-- t + u -/
theorem evd_catT (ha : EvD K ta Δ (.tuple xs)) (hb : EvD K tb Δ (.tuple ys)) (hz : xs.length + ys.length ≤ 100000) (hK : K' = K := by rfl) : EvD K (tOp (rCatF K') ta tb) Δ (.tuple (xs ++ ys)) := by
  subst hK
  intro F0 H0 F H σ m Q q
  refine ha F0 H0 F H σ m _ fun v F1 H1 e1 s1 => hb F0 H0 F1 H1 σ (m.step e1) _ fun w F2 H2 e2 s2 => ?_
  have s3 := s1.mono e2.f
  obtain ⟨a, us, rfl, h1, h2⟩ := s3.tup_inv
  obtain ⟨b, ws, rfl, h3, h4⟩ := s2.tup_inv
  have E := e1.trans e2
  refine ⟨a, b, us, ws, rfl, rfl, (e2.s.t h1).t, (e2.s.t h3).t, by rw [h2.len, h4.len]; exact small hz, fun z => ?_, fun _ z => ?_, fun _ _ => newT e2.s (h2.app h4) fun v F4 H4 e4 s4 => q v F4 H4 (E.trans e4) s4⟩
  · subst z
    cases h2
    exact q _ F2 H2 E s2
  · subst z
    cases h4
    exact q _ F2 H2 E (by rw [List.append_nil]; exact s3)
/-- tuple(xs) -/
theorem evd_tupO (ha : EvL K ta Δ xs) (hK : K' = K := by rfl) : EvD K (tCB (rTupF K') (tCons ta tNil)) Δ (.tuple xs) := by
  subst hK
  intro F0 H0 F H σ m Q q
  exact ha F0 H0 F H σ m _ fun p vs F1 H1 e1 h1 s1 => ⟨p, vs, rfl, .inl ⟨.inl (.inl h1), newT e1.s s1 fun v F2 H2 e2 s2 => q v F2 H2 (e1.trans e2) s2⟩⟩
/-- list(xs), xs a list or a tuple -/
theorem evo_listL (ha : EvL K ta Δ xs) (hK : K' = K := by rfl) : EvO K (tCB (fun xs H Q => ∃ p ys, xs = [V.ref p] ∧ (SqL K' H p ys ∨ SqT K' H p ys) ∧ ∀ l, H l = none → Q (.ref l) (upd H l (.lst ys))) (tCons ta tNil)) Δ xs := by
  subst hK
  intro F0 H0 F H σ m Q q
  exact ha F0 H0 F H σ m _ fun p vs F1 H1 e1 h1 s1 => ⟨p, vs, rfl, .inl (.inl (.inl h1)), newO e1.s s1 fun r ws F2 H2 e2 hp hf h2 s2 => q r ws F2 H2 (e1.trans e2) (e1.h.free hp) hf h2 s2⟩
theorem evo_listT (ha : EvD K ta Δ (.tuple xs)) (hK : K' = K := by rfl) : EvO K (tCB (fun xs H Q => ∃ p ys, xs = [V.ref p] ∧ (SqL K' H p ys ∨ SqT K' H p ys) ∧ ∀ l, H l = none → Q (.ref l) (upd H l (.lst ys))) (tCons ta tNil)) Δ xs := by
  subst hK
  intro F0 H0 F H σ m Q q
  refine ha F0 H0 F H σ m _ fun v F1 H1 e1 s1 => ?_
  obtain ⟨a, us, rfl, h1, h2⟩ := s1.tup_inv
  exact ⟨a, us, rfl, .inr (e1.s.t h1).t, newO e1.s h2 fun r ws F2 H2 e2 hp hf h2 s2 => q r ws F2 H2 (e1.trans e2) (e1.h.free hp) hf h2 s2⟩
/-- list(range), tuple(range) -/
def rgD (a b : Int) : List PyData := (List.range (b - a).toNat).map fun i => .int (a + (i : Nat))
theorem isRg (H : Hp) (a b : Int) : IsAll K H (rgV a b) (rgD a b) := by
  unfold rgV rgD
  generalize (List.range (b - a).toNat) = l
  induction l with
  | nil => exact .nil
  | cons n l ih => exact .cons (.int _) ih
theorem evo_listRg1 (ha : EvR K ta Δ (.int i)) (hi : RgOk 0 i) : EvO K (tLstRg (tRg1 ta)) Δ (rgD 0 i) := fun F0 H0 F H σ m Q q =>
  ha F0 H0 F H σ m _ fun v F1 H1 e1 s1 => ⟨i, s1.int_inv, hi, newO e1.s (isRg F1 0 i) fun r ws F2 H2 e2 hp hf h2 s2 => q r ws F2 H2 (e1.trans e2) (e1.h.free hp) hf h2 s2⟩
theorem evd_tupRg2 (ha : EvR K ta Δ (.int i)) (hb : EvR K tb Δ (.int j)) (hi : RgOk i j) : EvD K (tTupRgF (tRg2 ta tb)) Δ (.tuple (rgD i j)) := fun F0 H0 F H σ m Q q =>
  ha F0 H0 F H σ m _ fun v F1 H1 e1 s1 => hb F0 H0 F1 H1 σ (m.step e1) _ fun w F2 H2 e2 s2 => ⟨i, j, s1.int_inv, s2.int_inv, hi, newT e2.s (isRg F2 i j) fun v F3 H3 e3 s3 => q v F3 H3 ((e1.trans e2).trans e3) s3⟩
/-- xs + ys, xs * k -/
theorem evo_cat (ha : EvL K ta Δ xs) (hb : EvL K tb Δ ys) (hz : xs.length + ys.length ≤ 100000) : EvO K (tOp rCat ta tb) Δ (xs ++ ys) := fun F0 H0 F H σ m Q q =>
  ha F0 H0 F H σ m _ fun p vs F1 H1 e1 h1 s1 => hb F0 H0 F1 H1 σ (m.step e1) _ fun r ws F2 H2 e2 h2 s2 =>
    ⟨p, r, vs, ws, rfl, rfl, e2.h _ _ h1, h2, by rw [s1.len, s2.len]; exact small hz, newO e2.s ((s1.mono e2.f).app s2) fun u us F3 H3 e3 hp hf h3 s3 => q u us F3 H3 ((e1.trans e2).trans e3) ((e1.trans e2).h.free hp) hf h3 s3⟩
theorem IsAll.rep {H : Hp} {vs : List V} (h : IsAll K H vs xs) : ∀ n : Nat, IsAll K H (List.replicate n vs).flatten (List.replicate n xs).flatten
  | 0 => .nil
  | n + 1 => by rw [List.replicate_succ, List.replicate_succ, List.flatten_cons, List.flatten_cons]; exact h.app (h.rep n)
theorem evo_rep (ha : EvL K ta Δ xs) (hb : EvR K tb Δ (.int k)) (hk : -1000 ≤ k ∧ k ≤ 1000) (hz : xs.length ≤ 100) : EvO K (tOp rRep ta tb) Δ (List.replicate k.toNat xs).flatten := fun F0 H0 F H σ m Q q =>
  ha F0 H0 F H σ m _ fun p vs F1 H1 e1 h1 s1 => hb F0 H0 F1 H1 σ (m.step e1) _ fun w F2 H2 e2 s2 =>
    ⟨p, k, vs, rfl, s2.int_inv, e2.h _ _ h1, by omega, by omega, small (Nat.le_trans (Nat.mul_le_mul (show vs.length ≤ 100 by rw [s1.len]; exact hz) (show k.toNat ≤ 1000 by omega)) (by decide)),
      newO e2.s ((s1.mono e2.f).rep _) fun u us F3 H3 e3 hp hf h3 s3 => q u us F3 H3 ((e1.trans e2).trans e3) ((e1.trans e2).h.free hp) hf h3 s3⟩
/-- t.index(k) of a tuple of ints -/
theorem evd_index {ns : List Int} (ha : EvD K ta Δ (.tuple (ns.map PyData.int))) (hb : EvR K tb Δ (.int k)) (hk : k ∈ ns) (hK : K' = K := by rfl) : EvD K (tBT K' (rTupIx K') ta (tCons tb tNil)) Δ (.int (ns.idxOf k : Nat)) := by
  subst hK
  intro F0 H0 F H σ m Q q
  refine ha F0 H0 F H σ m _ fun v F1 H1 e1 s1 => ?_
  obtain ⟨a, us, rfl, h1, h2⟩ := s1.tup_inv
  refine ⟨⟨a, us, rfl, e1.s.t h1⟩, hb F0 H0 F1 H1 σ (m.step e1) _ fun w F2 H2 e2 s2 => ⟨a, ns, k, rfl, by rw [s2.int_inv], ?_, hk, q _ F2 H2 (e1.trans e2) (.int _)⟩⟩
  rw [← h2.ints]
  exact ((e1.s.trans e2.h).t h1).t
/-- sum, all -/
theorem evd_all {bs : List Bool} (ha : EvL K ta Δ (bs.map PyData.bool)) (hK : K' = K := by rfl) : EvD K (tCB (rAll K') (tCons ta tNil)) Δ (.bool (bs.all id)) := by
  subst hK
  intro F0 H0 F H σ m Q q
  exact ha F0 H0 F H σ m _ fun p vs F1 H1 e1 h1 s1 => ⟨p, bs, rfl, by rw [← s1.bools]; exact .inl (.inl h1), q _ F1 H1 e1 (.bl _)⟩
theorem evd_scrSum {ns : List Int} (ha : EvR K ta Δ (scrD ns)) (hK : K' = K := by rfl) : EvD K (tCB (rSum K') (tCons ta tNil)) Δ (.int ns.sum) := by
  subst hK
  intro F0 H0 F H σ m Q q
  refine ha F0 H0 F H σ m _ fun v F1 H1 e1 s1 => ?_
  obtain ⟨a, rfl, h1⟩ := s1.scr_inv
  exact ⟨a, ns, rfl, h1, q _ F1 H1 e1 (.int _)⟩
theorem evd_scrLen {ns : List Int} (ha : EvR K ta Δ (scrD ns)) (hK : K' = K := by rfl) :
    EvD K (tCB (fun xs H Q => ∃ p ys, xs = [V.ref p] ∧ (SqL K' H p ys ∨ SqT K' H p ys) ∧ Q (.int ys.length) H) (tCons ta tNil)) Δ (.int (ns.length : Nat)) := by
  subst hK
  intro F0 H0 F H σ m Q q
  refine ha F0 H0 F H σ m _ fun v F1 H1 e1 s1 => ?_
  obtain ⟨a, rfl, h1⟩ := s1.scr_inv
  exact ⟨a, _, rfl, .inl h1, by rw [List.length_map]; exact q _ F1 H1 e1 (.int _)⟩
theorem evd_scrIx {ns : List Int} {n : Nat} (ha : EvR K ta Δ (scrD ns)) (hb : EvR K tb Δ (.int i)) (hj : ixN ns.length i = some n) (hd : ns[n]? = some j) (hK : K' = K := by rfl) : EvD K (tOp (rIxL K') ta tb) Δ (.int j) := by
  subst hK
  intro F0 H0 F H σ m Q q
  refine ha F0 H0 F H σ m _ fun v F1 H1 e1 s1 => hb F0 H0 F1 H1 σ (m.step e1) _ fun w F2 H2 e2 s2 => ?_
  obtain ⟨a, rfl, h1⟩ := s1.scr_inv
  refine ⟨a, _, i, .int j, rfl, s2.int_inv, e2.h.l h1, ?_, q _ F2 H2 (e1.trans e2) (.int _)⟩
  unfold L2.atI
  rw [List.length_map, hj]
  show (ns.map V.int)[n]? = _
  rw [List.getElem?_map, hd]
  rfl
theorem dpInts {H : Hp} : ∀ ns : List Int, DpAll K H (ns.map V.int) (ns.map PyData.int)
  | [] => .nil
  | n :: ns => .cons (.int n) (dpInts ns)
theorem shaped_nil : SeqAt.shaped (.list []) = true := by decide +kernel
theorem shaped_ints : ∀ ns : List Int, PyData.canLayAll0 (ns.map PyData.int) = true
  | [] => rfl
  | n :: ns => by show (PyData.canLay0 (.int n) && PyData.canLayAll0 (ns.map PyData.int)) = true; rw [shaped_ints ns]; rfl
/-- script != [] -/
theorem depth_ints : ∀ ns : List Int, PyData.depthAll (ns.map PyData.int) ≤ 1
  | [] => by decide
  | n :: ns => by
    have := depth_ints ns
    show max (PyData.depth (.int n)) (PyData.depthAll (ns.map PyData.int)) ≤ 1
    exact Nat.max_le.mpr ⟨Nat.zero_le 1, this⟩
theorem okInts (ns : List Int) : SeqAt.shaped (.list (ns.map PyData.int)) = true := by
  unfold SeqAt.shaped
  rw [Bool.and_eq_true]
  refine ⟨shaped_ints ns, decide_eq_true ?_⟩
  have := depth_ints ns
  show PyData.depthAll (ns.map PyData.int) + 1 ≤ 64
  omega
theorem evd_scrNe {ns : List Int} (ha : EvR K ta Δ (scrD ns)) (hb : EvL K tb Δ []) (hK : K' = K := by rfl) : EvD K (tOp (rNeD K') ta tb) Δ (.bool (!ns.isEmpty)) := by
  subst hK
  intro F0 H0 F H σ m Q q
  refine ha F0 H0 F H σ m _ fun v F1 H1 e1 s1 => hb F0 H0 F1 H1 σ (m.step e1) _ fun p vs F2 H2 e2 h2 s2 => ?_
  obtain ⟨a, rfl, h1⟩ := s1.scr_inv
  cases s2
  refine ⟨.list (ns.map PyData.int), .list [], .lst (e2.h.l h1) (dpInts ns), .lst (.inl (.inl h2)) .nil, okInts ns, shaped_nil, ?_⟩
  have : (!PyData.eqv (.list (ns.map PyData.int)) (.list [])) = !ns.isEmpty := by cases ns <;> rfl
  rw [this]
  exact q _ F2 H2 (e1.trans e2) (.bl _)
/-- x in (a, b, ..) of texts -/
theorem inV_strs {z : Str} : ∀ zs : List Str, inV (.str z) (zs.map V.str) = decide (z ∈ zs)
  | [] => rfl
  | w :: zs => by
    show ((w == z) || inV (.str z) (zs.map V.str)) = _
    rw [inV_strs zs]
    by_cases h : w = z
    · subst h; simp
    · have : ¬ z = w := fun e => h e.symm
      simp [h, this]
theorem flat_strs : ∀ zs : List Str, (zs.map V.str).all flatV = true
  | [] => rfl
  | z :: zs => by simp only [List.map_cons, List.all_cons, flat_strs zs]; rfl
theorem evd_inT {z : Str} {zs : List Str} (ha : EvR K ta Δ (.str z)) (hb : EvD K tb Δ (.tuple (zs.map PyData.str))) (hK : K' = K := by rfl) : EvD K (tOp (rIn K' false) ta tb) Δ (.bool (decide (z ∈ zs))) := by
  subst hK
  intro F0 H0 F H σ m Q q
  refine ha F0 H0 F H σ m _ fun v F1 H1 e1 s1 => hb F0 H0 F1 H1 σ (m.step e1) _ fun w F2 H2 e2 s2 => ?_
  obtain ⟨a, us, rfl, h1, h2⟩ := s2.tup_inv
  have ez := h2.strs
  subst ez
  rw [s1.str_inv]
  exact ⟨a, zs.map V.str, rfl, .inr (e2.s.t h1).t, rfl, flat_strs zs, by rw [inV_strs]; exact q _ F2 H2 (e1.trans e2) (.bl _)⟩
theorem evd_inL {z : Str} {zs : List Str} (ha : EvR K ta Δ (.str z)) (hb : EvL K tb Δ (zs.map PyData.str)) (hK : K' = K := by rfl) : EvD K (tOp (rIn K' false) ta tb) Δ (.bool (decide (z ∈ zs))) := by
  subst hK
  intro F0 H0 F H σ m Q q
  refine ha F0 H0 F H σ m _ fun v F1 H1 e1 s1 => hb F0 H0 F1 H1 σ (m.step e1) _ fun a us F2 H2 e2 h1 h2 => ?_
  have ez := h2.strs
  subst ez
  rw [s1.str_inv]
  exact ⟨a, zs.map V.str, rfl, .inl (.inl (.inl h1)), rfl, flat_strs zs, by rw [inV_strs]; exact q _ F2 H2 (e1.trans e2) (.bl _)⟩
theorem evd_ninL {z : Str} {zs : List Str} (ha : EvR K ta Δ (.str z)) (hb : EvL K tb Δ (zs.map PyData.str)) (hK : K' = K := by rfl) : EvD K (tOp (rIn K' true) ta tb) Δ (.bool (!decide (z ∈ zs))) := by
  subst hK
  intro F0 H0 F H σ m Q q
  refine ha F0 H0 F H σ m _ fun v F1 H1 e1 s1 => hb F0 H0 F1 H1 σ (m.step e1) _ fun a us F2 H2 e2 h1 h2 => ?_
  have ez := h2.strs
  subst ez
  rw [s1.str_inv]
  exact ⟨a, zs.map V.str, rfl, .inl (.inl (.inl h1)), rfl, flat_strs zs, by rw [inV_strs]; exact q _ F2 H2 (e1.trans e2) (.bl _)⟩
/-- sorted -/
def srtD (ds : List PyData) : List PyData := ds.mergeSort (PySem.W.dataLe false id)
theorem IsAll.zip {H : Hp} : ∀ {vs : List V} {ds : List PyData}, IsAll K H vs ds → (vs.zip ds).map Prod.fst = vs ∧ (vs.zip ds).map Prod.snd = ds ∧ ∀ b ∈ vs.zip ds, Is K H b.1 b.2
  | _, _, .nil => ⟨rfl, rfl, fun _ h => nomatch h⟩
  | _, _, .cons h t => by
    obtain ⟨h1, h2, h3⟩ := IsAll.zip t
    refine ⟨by rw [List.zip_cons_cons, List.map_cons, h1], by rw [List.zip_cons_cons, List.map_cons, h2], fun b hb => ?_⟩
    rw [List.zip_cons_cons] at hb
    rcases List.mem_cons.mp hb with rfl | hb
    · exact h
    · exact h3 b hb
theorem isAll_of {H : Hp} : ∀ {bs : List (V × PyData)}, (∀ b ∈ bs, Is K H b.1 b.2) → IsAll K H (bs.map Prod.fst) (bs.map Prod.snd)
  | [], _ => .nil
  | b :: bs, h => .cons (h b List.mem_cons_self) (isAll_of fun c hc => h c (List.mem_cons_of_mem _ hc))
structure Srt (ds : List PyData) : Prop where
  nd : ∀ d ∈ ds, noD d = true ∧ d.depth ≤ 20
  al : PySem.W.AllAlike ds
  so : PySem.W.Sortable ds
theorem sort_go {F H : Hp} {p : Addr} {vs : List V} {Q : VK} (s : Ex F H) (hs : Srt ds) (hp : SqL K H p vs ∨ SqT K H p vs) (h : IsAll K F vs ds)
    (q : ∀ p vs F' H', Ext F H F' H' → H p = none → F' p = none → H' p = some (.lst vs) → IsAll K F' vs (srtD ds) → Q (.ref p) H') : rSortD K [.ref p] H Q := by
  obtain ⟨e1, e2, e3⟩ := h.zip
  have nd' : ∀ b ∈ vs.zip ds, noD b.2 = true ∧ b.2.depth ≤ 20 := fun b hb => hs.nd b.2 (by rw [← e2]; exact List.mem_map_of_mem hb)
  refine ⟨p, vs.zip ds, rfl, by rw [e1]; exact hp, fun b hb => ⟨Is.dp b.2 b.1 (nd' b hb).1 ((e3 b hb).mono s), (nd' b hb).2⟩, by rw [e2]; exact hs.al, by rw [e2]; exact hs.so, fun l hl => ?_⟩
  refine q l _ F _ (.grow s (.new hl)) hl (s.free hl) upd_same ?_
  have e4 : ((vs.zip ds).mergeSort (PySem.W.dataLe false Prod.snd)).map Prod.snd = srtD ds := by
    unfold srtD
    have w := PySem.W.sort_maps (r := PySem.W.dataLe false Prod.snd) (s := PySem.W.dataLe false id) (Prod.snd : V × PyData → PyData) (l := vs.zip ds) (fun _ _ _ _ => rfl)
    rw [w, e2]
  rw [← e4]
  exact isAll_of fun b hb => e3 b (List.mem_mergeSort.mp hb)
theorem evo_sortL (ha : EvL K ta Δ ds) (hs : Srt ds) (hK : K' = K := by rfl) : EvO K (tCB (rSortD K') (tCons ta tNil)) Δ (srtD ds) := by
  subst hK
  intro F0 H0 F H σ m Q q
  exact ha F0 H0 F H σ m _ fun p vs F1 H1 e1 h1 s1 => sort_go e1.s hs (.inl (.inl (.inl h1))) s1 fun r ws F2 H2 e2 hp hf h2 s2 => q r ws F2 H2 (e1.trans e2) (e1.h.free hp) hf h2 s2
theorem evo_sortT (ha : EvD K ta Δ (.tuple ds)) (hs : Srt ds) (hK : K' = K := by rfl) : EvO K (tCB (rSortD K') (tCons ta tNil)) Δ (srtD ds) := by
  subst hK
  intro F0 H0 F H σ m Q q
  refine ha F0 H0 F H σ m _ fun v F1 H1 e1 s1 => ?_
  obtain ⟨a, us, rfl, h1, h2⟩ := s1.tup_inv
  exact sort_go e1.s hs (.inr (e1.s.t h1).t) h2 fun r ws F2 H2 e2 hp hf h2 s2 => q r ws F2 H2 (e1.trans e2) (e1.h.free hp) hf h2 s2
end
end Dx

set_option Elab.async false
set_option linter.all false
set_option maxRecDepth 100000
set_option maxHeartbeats 4000000
/-! Dx5: promises over data, calls, statements, loops, comprehensions. -/
namespace Dx
open PySem PySem.Spec PyProof.Rows L2
/-- how a def ends: data, a list of the asker's own, an error of the class of that name -/
inductive Oc where
  | ok (d : PyData)
  | own (xs : List PyData)
  | ex (c : Str)
section
variable (K : PySem.W.Frag) (mg : Str → Option Value)
def Post (F H : Hp) (Q : VK) (E : XK) : Oc → Prop
  | .ok d => ∀ v F' H', Ext F H F' H' → Is K F' v d → Q v H'
  | .own xs => ∀ p vs F' H', Ext F H F' H' → H p = none → F' p = none → H' p = some (.lst vs) → IsAll K F' vs xs → Q (.ref p) H'
  | .ex c => ∀ C F' H', Ext F H F' H' → mg c = some (.ref C) → E (.ref C) none H'
/-- THE PROMISE of a def: from x its arguments args x (data), under pre x, it ends as out x says -/
def spO {α : Type} (pre : α → Prop) (args : α → List PyData) (out : α → Oc) : Sp := fun vs H Q E => ∃ F x, Ex F H ∧ IsAll K F vs (args x) ∧ pre x ∧ Post K mg F H Q E (out x)
structure Out where
  nx : De → Prop := fun _ => False
  rt : Oc → Prop
  bk : De → Prop := fun _ => False
  ct : De → Prop := fun _ => False
/-- a statement's run -/
def Run (E : XK) (t : TS) (Δ : De) (o : Out) : Prop := ∀ F0 H0 F H σ (D : Ends), M K F0 H0 F H σ Δ →
  (∀ σ' F' H' Δ', Ex F F' → M K F0 H0 F' H' σ' Δ' → o.nx Δ' → D.nx σ' H') →
  (∀ σ' F' H' Δ', Ex F F' → M K F0 H0 F' H' σ' Δ' → o.bk Δ' → D.bk σ' H') →
  (∀ σ' F' H' Δ', Ex F F' → M K F0 H0 F' H' σ' Δ' → o.ct Δ' → D.ct σ' H') →
  (∀ c, o.rt c → Post K mg F0 H0 D.rt E c) → t D σ H
/-- an expression that ends in an error -/
def EvX (E : XK) (te : TE) (Δ : De) (c : Str) : Prop := ∀ F0 H0 F H σ, M K F0 H0 F H σ Δ → (∀ C F' H', Ext F H F' H' → mg c = some (.ref C) → E (.ref C) none H') → ∀ Q, te σ H Q
end
section
variable {K K' : PySem.W.Frag} {mg : Str → Option Value} {E : XK} {Δ : De} {o : Out} {t u : TS} {te ta : TE} {d : PyData} {xs : List PyData} {c : Str}
theorem Post.step {F H F' H' : Hp} {Q : VK} (e : Ext F H F' H') : ∀ {c : Oc}, Post K mg F H Q E c → Post K mg F' H' Q E c
  | .ok d, h => fun v F2 H2 e2 s => h v F2 H2 (e.trans e2) s
  | .own xs, h => fun p vs F2 H2 e2 hp hf h2 s => h p vs F2 H2 (e.trans e2) (e.h.free hp) hf h2 s
  | .ex c, h => fun C F2 H2 e2 g => h C F2 H2 (e.trans e2) g
/-- what is asked of data is given by a list of one's own, too -/
theorem Post.own {F H : Hp} {Q : VK} (h : Post K mg F H Q E (.ok (.list xs))) : Post K mg F H Q E (.own xs) := fun p vs F' H' e hp hf h1 h2 =>
  h (.ref p) (upd F' p (.lst vs)) H' (e.frz hp hf h1) (.lst upd_same (h2.mono (.new hf)))

/-! ### calls -/
section
variable {α : Type} {pre : α → Prop} {args : α → List PyData} {out : α → Oc} {tl : TA} {E' : XK}
theorem call_go {F0 H0 F H : Hp} {σ : L2.St} {Q : VK} (x : α) (ha : EvA K tl Δ (args x)) (hp : pre x) (m : M K F0 H0 F H σ Δ) (hq : Post K mg F H Q E' (out x)) : tCall (spO K mg pre args out) [] E' tl σ H Q :=
  ha F0 H0 F H σ m _ fun vs F1 H1 e1 s1 => ⟨F1, x, e1.s, by rw [List.append_nil]; exact s1, hp, hq.step e1⟩
theorem evd_call (x : α) (ha : EvA K tl Δ (args x)) (hp : pre x) (ho : out x = .ok d) : EvD K (tCall (spO K mg pre args out) [] E' tl) Δ d := fun F0 H0 F H σ m Q q =>
  call_go x ha hp m (by rw [ho]; exact q)
theorem evo_call (x : α) (ha : EvA K tl Δ (args x)) (hp : pre x) (ho : out x = .own xs) : EvO K (tCall (spO K mg pre args out) [] E' tl) Δ xs := fun F0 H0 F H σ m Q q =>
  call_go x ha hp m (by rw [ho]; exact q)
theorem evx_call (x : α) (ha : EvA K tl Δ (args x)) (hp : pre x) (ho : out x = .ex c) : EvX K mg E' (tCall (spO K mg pre args out) [] E' tl) Δ c := fun F0 H0 F H σ m q Q =>
  call_go x ha hp m (by rw [ho]; exact q)
/-- a call that gets lists as they stand now, and hands back what needs no heap -/
def flatD : PyData → Bool
  | .none | .bool _ | .int _ | .str _ => true
  | _ => false
theorem Is.flat {F G : Hp} {v : V} (h : Is K F v d) (hd : flatD d = true) : Is K G v d := by
  cases h <;> first | exact .non | exact .bl _ | exact .int _ | exact .str _ | cases hd
theorem evd_callB (x : α) (ha : EvB K tl Δ (args x)) (hp : pre x) (ho : out x = .ok d) (hd : flatD d = true) : EvD K (tCall (spO K mg pre args out) [] E' tl) Δ d := fun F0 H0 F H σ m Q q =>
  ha F0 H0 F H σ m _ fun vs F1 H1 e1 s1 => ⟨H1, x, .refl _, by rw [List.append_nil]; exact s1, hp, by
    rw [ho]
    exact fun v F2 H2 e2 s2 => q v F1 H2 (e1.trans (.grow e1.s e2.h)) (s2.flat hd)⟩
end

/-! ### statements -/
theorem Run.imp {o' : Out} (h : Run K mg E t Δ o) (h1 : ∀ Δ', o.nx Δ' → o'.nx Δ') (h2 : ∀ c, o.rt c → o'.rt c) (h3 : ∀ Δ', o.bk Δ' → o'.bk Δ') (h4 : ∀ Δ', o.ct Δ' → o'.ct Δ') : Run K mg E t Δ o' :=
  fun F0 H0 F H σ D m a b c' d' => h F0 H0 F H σ D m (fun σ' F' H' Δ' e m' q => a σ' F' H' Δ' e m' (h1 _ q)) (fun σ' F' H' Δ' e m' q => b σ' F' H' Δ' e m' (h3 _ q)) (fun σ' F' H' Δ' e m' q => c' σ' F' H' Δ' e m' (h4 _ q)) fun c q => d' c (h2 _ q)
theorem run_seq (h : Run K mg E t Δ { o with nx := fun Δ' => Run K mg E u Δ' o }) : Run K mg E (tSeq t u) Δ o := fun F0 H0 F H σ D m a b c' d' =>
  h F0 H0 F H σ { D with nx := u D } m (fun σ' F' H' Δ' e m' q => q F0 H0 F' H' σ' D m' (fun σ2 F2 H2 Δ2 e2 m2 q2 => a σ2 F2 H2 Δ2 (e.trans e2) m2 q2) (fun σ2 F2 H2 Δ2 e2 m2 q2 => b σ2 F2 H2 Δ2 (e.trans e2) m2 q2) (fun σ2 F2 H2 Δ2 e2 m2 q2 => c' σ2 F2 H2 Δ2 (e.trans e2) m2 q2) d') b c' d'
theorem run_next (h : o.nx Δ) : Run K mg E tNext Δ o := fun F0 H0 F H σ D m a _ _ _ => a σ F H Δ (.refl _) m h
theorem run_break (h : o.bk Δ) : Run K mg E tBreak Δ o := fun F0 H0 F H σ D m _ b _ _ => b σ F H Δ (.refl _) m h
theorem run_cont (h : o.ct Δ) : Run K mg E tCont Δ o := fun F0 H0 F H σ D m _ _ c _ => c σ F H Δ (.refl _) m h
theorem run_set {i : Nat} (he : EvD K te Δ d) (h : o.nx (Δ.set i (some (.d d)))) : Run K mg E (tAsg te (gName i)) Δ o := fun F0 H0 F H σ D m a _ _ _ =>
  he F0 H0 F H σ m _ fun v F1 H1 e s => a _ F1 H1 _ e.f ((m.step e).setD s) h
theorem M.noL {F0 H0 F H : Hp} {σ : L2.St} {i : Nat} {a : Addr} (m : M K F0 H0 F H σ Δ) (h : H a = none) : ∀ (j : Nat) ys, Δ[j]? = some (some (.l a ys)) → j = i := fun j ys q => by
  obtain ⟨_, _, _, _, _, vs, h4, _⟩ := m.ok j _ q
  rw [h] at h4; cases h4
theorem run_setO {i : Nat} (he : EvO K te Δ xs) (h : ∀ a, o.nx (Δ.set i (some (.l a xs)))) : Run K mg E (tAsg te (gName i)) Δ o := fun F0 H0 F H σ D m a _ _ _ =>
  he F0 H0 F H σ m _ fun p vs F1 H1 e hp hf h1 s => a _ F1 H1 _ e.f ((m.step e).setL (m.ext.h.free hp) hf h1 s (m.noL hp)) (h p)
theorem run_drop (he : EvR K te Δ d) (h : o.nx Δ) : Run K mg E (tDrop te) Δ o := fun F0 H0 F H σ D m a _ _ _ =>
  he F0 H0 F H σ m _ fun v F1 H1 e s => a _ F1 H1 _ e.f (m.step e) h
theorem run_ret (he : EvD K te Δ d) (h : o.rt (.ok d)) : Run K mg E (tRet te) Δ o := fun F0 H0 F H σ D m _ _ _ r =>
  he F0 H0 F H σ m _ fun v F1 H1 e s => r _ h v F1 H1 (m.ext.trans e) s
theorem run_retO (he : EvO K te Δ xs) (h : o.rt (.own xs)) : Run K mg E (tRet te) Δ o := fun F0 H0 F H σ D m _ _ _ r =>
  he F0 H0 F H σ m _ fun p vs F1 H1 e hp hf h1 s => r _ h p vs F1 H1 (m.ext.trans e) (m.ext.h.free hp) hf h1 s
theorem run_retV {i : Nat} {a : Addr} (hi : Δ[i]? = some (some (.l a xs))) (h : o.rt (.own xs)) : Run K mg E (tRet (tVar i)) Δ o := fun F0 H0 F H σ D m _ _ _ r => by
  obtain ⟨v, h1, rfl, h2, h3, vs, h4, h5⟩ := m.ok i _ hi
  exact ⟨_, h1, r _ h a vs F H m.ext h2 h3 h4 h5⟩
/-- a list of one's own told as data -/
theorem run_retVd {i : Nat} {a : Addr} (hi : Δ[i]? = some (some (.l a xs))) (h : o.rt (.ok (.list xs))) : Run K mg E (tRet (tVar i)) Δ o := fun F0 H0 F H σ D m _ _ _ r => by
  obtain ⟨v, h1, rfl, h2, h3, vs, h4, h5⟩ := m.ok i _ hi
  exact ⟨_, h1, (r _ h).own a vs F H m.ext h2 h3 h4 h5⟩
theorem run_retN (h : o.rt (.ok .none)) : Run K mg E tRetN Δ o := fun F0 H0 F H σ D m _ _ _ r => r _ h .non F H m.ext .non
theorem run_if {tc : TT} {b : Bool} (hc : EvT K tc Δ b) (h1 : b = true → Run K mg E t Δ o) (h2 : b = false → Run K mg E u Δ o) : Run K mg E (tIfS tc t u) Δ o := fun F0 H0 F H σ D m a b' c' r =>
  hc F0 H0 F H σ m _ fun F1 H1 e => by
    have up : ∀ {p : TS}, Run K mg E p Δ o → p D σ H1 := fun {p} h => h F0 H0 F1 H1 σ D (m.step e) (fun σ' F' H' Δ' e' m' q => a σ' F' H' Δ' (e.f.trans e') m' q) (fun σ' F' H' Δ' e' m' q => b' σ' F' H' Δ' (e.f.trans e') m' q) (fun σ' F' H' Δ' e' m' q => c' σ' F' H' Δ' (e.f.trans e') m' q) r
    cases b with
    | true => exact iteT (up (h1 rfl))
    | false => exact iteF (up (h2 rfl))
/-- xs.append(e) -/
theorem run_app {i : Nat} {a : Addr} (hi : Δ[i]? = some (some (.l a xs))) (he : EvD K te Δ d) (hz : xs.length < 100000) (h : o.nx (Δ.set i (some (.l a (xs ++ [d]))))) (hK : K' = K := by rfl) :
    Run K mg E (tDrop (tBM K' "list" rAppend (tVar i) (tCons te tNil))) Δ o := by
  subst hK
  intro F0 H0 F H σ D m k _ _ _
  obtain ⟨v, h1, rfl, h2, h3, vs, h4, h5⟩ := m.ok i _ hi
  refine ⟨_, h1, .inl ⟨rfl, vs, .inl (.inl h4)⟩, he F0 H0 F H σ m _ fun w F1 H1 e s => ⟨a, vs, w, rfl, rfl, e.h _ _ h4, smaller (by rw [h5.len]; exact hz), k _ F1 _ _ e.f ((m.step e).upL hi ?_) h⟩⟩
  exact (h5.mono e.f).app (.one s)
/-- xs[j] = e -/
theorem run_setI {i : Nat} {a : Addr} {tb : TE} {n : Int} {j : Nat} (hi : Δ[i]? = some (some (.l a xs))) (he : EvD K te Δ d) (hb : EvR K tb Δ (.int n)) (hj : ixN xs.length n = some j) (h : o.nx (Δ.set i (some (.l a (xs.set j d))))) :
    Run K mg E (tAsg te (gSub (tVar i) tb rSetL)) Δ o := by
  intro F0 H0 F H σ D m k _ _ _
  obtain ⟨v, h1, rfl, h2, h3, vs, h4, h5⟩ := m.ok i _ hi
  refine he F0 H0 F H σ m _ fun w F1 H1 e s => ⟨_, h1, hb F0 H0 F1 H1 σ (m.step e) _ fun z F2 H2 e2 s2 => ⟨a, vs, n, j, rfl, s2.int_inv, e2.h _ _ (e.h _ _ h4), by rw [h5.len]; exact hj, ?_⟩⟩
  exact k _ F2 _ _ (e.f.trans e2.f) ((m.step (e.trans e2)).upL hi ((h5.mono (e.f.trans e2.f)).set j (s.mono e2.f))) h
/-- errors -/
theorem run_dropX (he : EvX K mg E te Δ c) (h : o.rt (.ex c)) : Run K mg E (tDrop te) Δ o := fun F0 H0 F H σ D m _ _ _ r => he F0 H0 F H σ m (fun C F' H' e g => r _ h C F' H' (m.ext.trans e) g) _
theorem run_retX (he : EvX K mg E te Δ c) (h : o.rt (.ex c)) : Run K mg E (tRet te) Δ o := fun F0 H0 F H σ D m _ _ _ r => he F0 H0 F H σ m (fun C F' H' e g => r _ h C F' H' (m.ext.trans e) g) _
theorem run_setX {g : TG} (he : EvX K mg E te Δ c) (h : o.rt (.ex c)) : Run K mg E (tAsg te g) Δ o := fun F0 H0 F H σ D m _ _ _ r => he F0 H0 F H σ m (fun C F' H' e g => r _ h C F' H' (m.ext.trans e) g) _
theorem run_ifX {tc : TT} (he : ∀ F0 H0 F H σ, M K F0 H0 F H σ Δ → (∀ C F' H', Ext F H F' H' → mg c = some (.ref C) → E (.ref C) none H') → ∀ Q, tc σ H Q) (h : o.rt (.ex c)) : Run K mg E (tIfS tc t u) Δ o := fun F0 H0 F H σ D m _ _ _ r => he F0 H0 F H σ m (fun C F' H' e g => r _ h C F' H' (m.ext.trans e) g) _
/-- raise C('..') -/
def tRz (E : XK) (C : Addr) : TS := fun _ _ H => E (.ref C) none H
theorem run_rz {C : Addr} (h : o.rt (.ex c)) (g : mg c = some (.ref C)) : Run K mg E (tRz E C) Δ o := fun F0 H0 F H σ D m _ _ _ r => r _ h C F H m.ext g

/-! ### loops -/
/-- over a list or a tuple that stands frozen; I: what holds ahead of turn n -/
theorem run_for {ta : TE} {i : Nat} {tb : TS} {wi : TI} (I : Nat → De → Prop) (ha : EvD K ta Δ (.list xs)) (hw : wi = iList K ta) (h0 : I 0 Δ)
    (hs : ∀ (n : Nat) (x : PyData) Δ', xs[n]? = some x → I n Δ' → Run K mg E tb (Δ'.set i (some (.d x))) { o with nx := I (n + 1), ct := I (n + 1), bk := o.nx }) (hd : ∀ Δ', I xs.length Δ' → o.nx Δ') :
    Run K mg E (tFor wi (gName i) tb) Δ o := by
  subst hw
  intro F0 H0 F H σ D m a b c' r
  refine ha F0 H0 F H σ m _ fun v F1 H1 e s => ?_
  obtain ⟨p, vs, rfl, h1, h2⟩ := s.lst_inv
  refine ⟨p, rfl, ⟨vs, .inl (.inl (e.s _ _ h1))⟩, for_list (xs := vs) (fun n σ' H' => ∃ F' Δ', Ex F1 F' ∧ M K F0 H0 F' H' σ' Δ' ∧ I n Δ') ⟨F1, Δ, .refl _, m.step e, h0⟩ (fun n σ' H' _ ⟨F', Δ', e', m', _⟩ => .inl (.inl (m'.s _ _ (e' _ _ h1)))) ?_ ?_⟩
  · rintro n x σ' H' hn ⟨F', Δ', e', m', hI⟩
    obtain ⟨d, hd', hx⟩ := h2.getV hn
    refine hs n d Δ' hd' hI F0 H0 F' H' _ _ (m'.setD (hx.mono e')) (fun σ2 F2 H2 Δ2 e2 m2 q2 => ⟨F2, Δ2, e'.trans e2, m2, q2⟩) (fun σ2 F2 H2 Δ2 e2 m2 q2 => a σ2 F2 H2 Δ2 ((e.f.trans e').trans e2) m2 q2) (fun σ2 F2 H2 Δ2 e2 m2 q2 => ⟨F2, Δ2, e'.trans e2, m2, q2⟩) r
  · rintro σ' H' ⟨F', Δ', e', m', hI⟩
    rw [h2.len] at hI
    exact a σ' F' H' Δ' (e.f.trans e') m' (hd Δ' hI)
theorem run_forT {ta : TE} {i : Nat} {tb : TS} {wi : TI} (I : Nat → De → Prop) (ha : EvD K ta Δ (.tuple xs)) (hw : wi = iTup K ta) (h0 : I 0 Δ)
    (hs : ∀ (n : Nat) (x : PyData) Δ', xs[n]? = some x → I n Δ' → Run K mg E tb (Δ'.set i (some (.d x))) { o with nx := I (n + 1), ct := I (n + 1), bk := o.nx }) (hd : ∀ Δ', I xs.length Δ' → o.nx Δ') :
    Run K mg E (tFor wi (gName i) tb) Δ o := by
  subst hw
  intro F0 H0 F H σ D m a b c' r
  refine ha F0 H0 F H σ m _ fun v F1 H1 e s => ?_
  obtain ⟨p, vs, rfl, h1, h2⟩ := s.tup_inv
  refine ⟨p, rfl, ⟨vs, (e.s.t h1).t⟩, for_tup (xs := vs) (fun n σ' H' => ∃ F' Δ', Ex F1 F' ∧ M K F0 H0 F' H' σ' Δ' ∧ I n Δ') ⟨F1, Δ, .refl _, m.step e, h0⟩ (fun n σ' H' _ ⟨F', Δ', e', m', _⟩ => (m'.s.t (e'.t h1)).t) ?_ ?_⟩
  · rintro n x σ' H' hn ⟨F', Δ', e', m', hI⟩
    obtain ⟨d, hd', hx⟩ := h2.getV hn
    refine hs n d Δ' hd' hI F0 H0 F' H' _ _ (m'.setD (hx.mono e')) (fun σ2 F2 H2 Δ2 e2 m2 q2 => ⟨F2, Δ2, e'.trans e2, m2, q2⟩) (fun σ2 F2 H2 Δ2 e2 m2 q2 => a σ2 F2 H2 Δ2 ((e.f.trans e').trans e2) m2 q2) (fun σ2 F2 H2 Δ2 e2 m2 q2 => ⟨F2, Δ2, e'.trans e2, m2, q2⟩) r
  · rintro σ' H' ⟨F', Δ', e', m', hI⟩
    rw [h2.len] at hI
    exact a σ' F' H' Δ' (e.f.trans e') m' (hd Δ' hI)
theorem run_forR {tl : TA} {i : Nat} {tb : TS} {N : Nat} (I : Nat → De → Prop) (ha : EvB K tl Δ [.int N]) (hN : N ≤ 1000000) (h0 : I 0 Δ)
    (hs : ∀ (n : Nat) Δ', n < N → I n Δ' → Run K mg E tb (Δ'.set i (some (.d (.int n)))) { o with nx := I (n + 1), ct := I (n + 1), bk := o.nx }) (hd : ∀ Δ', I N Δ' → o.nx Δ') :
    Run K mg E (tFor (iRng1 tl) (gName i) tb) Δ o := by
  intro F0 H0 F H σ D m a b c' r
  refine ha F0 H0 F H σ m _ fun ws F1 H1 e s => ?_
  cases s with
  | cons s1 s2 =>
    cases s2
    refine ⟨N, by rw [s1.int_inv], by omega, by omega, ?_⟩
    refine for_range (lo := 0) (n := (N : Int).toNat) (fun n σ' H' => ∃ F' Δ', Ex F1 F' ∧ M K F0 H0 F' H' σ' Δ' ∧ I n Δ') ⟨F1, Δ, .refl _, m.step e, h0⟩ ?_ ?_
    · rintro n σ' H' hn ⟨F', Δ', e', m', hI⟩
      have e0 : (0 : Int) + (n : Int) = (n : Int) := Int.zero_add _
      rw [e0]
      exact hs n Δ' (by omega) hI F0 H0 F' H' _ _ (m'.setD (.int _)) (fun σ2 F2 H2 Δ2 e2 m2 q2 => ⟨F2, Δ2, e'.trans e2, m2, q2⟩) (fun σ2 F2 H2 Δ2 e2 m2 q2 => a σ2 F2 H2 Δ2 ((e.f.trans e').trans e2) m2 q2) (fun σ2 F2 H2 Δ2 e2 m2 q2 => ⟨F2, Δ2, e'.trans e2, m2, q2⟩) r
    · rintro σ' H' ⟨F', Δ', e', m', hI⟩
      rw [Int.toNat_natCast] at hI
      exact a σ' F' H' Δ' (e.f.trans e') m' (hd Δ' hI)

/-! ### comprehensions -/
section
variable {α : Type} {g f : α → PyData} {p : α → Bool} {tt : TT} {j : Nat} {vs : List Nat}
theorem wipe1 {σ : L2.St} {j : Nat} {x : Option V} : wipe ((wipe σ [j]).set j x) [j] = wipe σ [j] := by
  show ((σ.set j none).set j x).set j none = σ.set j none
  rw [List.set_set, List.set_set]
/-- one turn -/
theorem lc_turn {F0 H0 F1 H1 F' H' : Hp} {σ : L2.St} {Δ' : De} {D : Addr} {acc : List V} {ys : List PyData} {b : Bool} {y : PyData} {R : Hp → Prop} (m : M K F0 H0 F' H' σ Δ') (e1 : Ext F1 H1 F' H') (hD : H1 D = none) (hF : F' D = none) (hA : H' D = some (.lst acc)) (hy : IsAll K F' acc ys) (hz : ys.length < 100000)
    (ht : EvT K tt Δ' b) (he : b = true → EvD K te Δ' y) (hr : ∀ F2 H2 acc', Ext F1 H1 F2 H2 → F2 D = none → H2 D = some (.lst acc') → IsAll K F2 acc' (if b = true then ys ++ [y] else ys) → R H2) :
    tt σ H' fun b H3 => if b = true then te σ H3 fun v H4 => ∃ acc, H4 D = some (.lst acc) ∧ acc.length < sizeLine ∧ R (upd H4 D (.lst (acc ++ [v]))) else R H3 :=
  ht F0 H0 F' H' σ m _ fun F3 H3 e3 => by
    have ne : H' D ≠ none := by rw [hA]; intro z; cases z
    cases b with
    | true =>
      refine iteT (he rfl F0 H0 F3 H3 σ (m.step e3) _ fun v F4 H4 e4 s4 => ?_)
      have E4 := e3.trans e4
      have hF4 : F4 D = none := E4.av D hF ne
      refine ⟨acc, E4.h _ _ hA, smaller (by rw [hy.len]; exact hz), hr F4 _ (acc ++ [v]) ⟨(e1.trans E4).f, (e1.trans E4).h.mut hD, E4.s.mut hF4, (e1.trans E4).av⟩ hF4 upd_same ?_⟩
      rw [if_pos rfl]
      exact (hy.mono E4.f).app (.one s4)
    | false =>
      refine iteF (hr F3 H3 acc (e1.trans e3) (e3.av D hF ne) (e3.h _ _ hA) ?_)
      rw [if_neg Bool.false_ne_true]
      exact hy.mono e3.f
theorem take_step {α : Type} {l : List α} {i : Nat} {x : α} (h : l[i]? = some x) : l.take (i + 1) = l.take i ++ [x] := by
  rw [List.take_add_one, h]; rfl
theorem fm_step {xs : List α} {i : Nat} {x : α} (h : xs[i]? = some x) : ((xs.take (i + 1)).filter p).map f = if p x = true then ((xs.take i).filter p).map f ++ [f x] else ((xs.take i).filter p).map f := by
  rw [take_step h, List.filter_append, List.map_append]
  cases q : p x with
  | true => rw [if_pos rfl, List.filter_cons, if_pos q]; rfl
  | false => rw [if_neg Bool.false_ne_true, List.filter_cons, if_neg (by rw [q]; exact Bool.false_ne_true)]; exact List.append_nil _
theorem fm_len {xs : List α} {i : Nat} : (((xs.take i).filter p).map f).length ≤ xs.length := by
  rw [List.length_map]
  have h1 := List.length_filter_le p (xs.take i)
  have h2 : (xs.take i).length ≤ xs.length := by rw [List.length_take]; omega
  omega
/-- over a list of data g x, x in xs -/
theorem evo_lcL {xs : List α} {wi : TI} (p : α → Bool) (f : α → PyData) (ha : EvL K ta Δ (xs.map g)) (hw : wi = iList K ta) (hv : vs = [j]) (hz : xs.length ≤ 50000)
    (ht : ∀ x ∈ xs, EvT K tt ((Δ.set j none).set j (some (.d (g x)))) (p x)) (he : ∀ x ∈ xs, p x = true → EvD K te ((Δ.set j none).set j (some (.d (g x)))) (f x)) : EvO K (tLc wi (gName j) tt te vs) Δ ((xs.filter p).map f) := by
  subst hw hv
  intro F0 H0 F H σ m Q q
  refine ha F0 H0 F H σ m _ fun a ws F1 H1 e1 h1 s1 => ⟨a, rfl, ⟨ws, .inl (.inl h1)⟩, fun D hD => ?_⟩
  have m1 := m.step e1
  have ha' : a ≠ D := ne_of_none h1 hD
  refine lc_list (xs := ws) (fun i H' => ∃ F' acc, Ext F1 H1 F' H' ∧ F' D = none ∧ H' D = some (.lst acc) ∧ IsAll K F' acc (((xs.take i).filter p).map f)) ⟨F1, [], .grow e1.s (.new hD), e1.s.free hD, upd_same, .nil⟩ (fun i H' _ ⟨F', acc, e, _, _, _⟩ => .inl (.inl (e.h _ _ h1))) ?_ ?_
  · rintro i x H' hi ⟨F', acc, e, hF, hA, hy⟩
    obtain ⟨d, hd, hx⟩ := s1.getV hi
    rw [List.getElem?_map] at hd
    obtain ⟨z, hz', rfl⟩ : ∃ z, xs[i]? = some z ∧ d = g z := by
      cases q : xs[i]? with
      | none => rw [q] at hd; cases hd
      | some z => rw [q] at hd; exact ⟨z, rfl, (Option.some.inj hd).symm⟩
    have hm := List.mem_of_getElem? hz'
    refine ⟨wipe1, lc_turn (((m1.step e).setN (i := j) (x := none)).setD (hx.mono e.f)) e hD hF hA hy (by have := fm_len (p := p) (f := f) (xs := xs) (i := i); omega) (ht z hm) (he z hm) fun F2 H2 acc' e2 hF2 hA2 hy2 => ⟨F2, acc', e2, hF2, hA2, ?_⟩⟩
    rw [fm_step hz']
    exact hy2
  · rintro H' ⟨F', acc, e, hF, hA, hy⟩
    have hl : ws.length = xs.length := by rw [s1.len, List.length_map]
    rw [hl, List.take_length] at hy
    exact q D acc F' H' (e1.trans e) (e1.h.free hD) hF hA hy
theorem evo_lcT {xs : List α} {wi : TI} (p : α → Bool) (f : α → PyData) (ha : EvD K ta Δ (.tuple (xs.map g))) (hw : wi = iTup K ta) (hv : vs = [j]) (hz : xs.length ≤ 50000)
    (ht : ∀ x ∈ xs, EvT K tt ((Δ.set j none).set j (some (.d (g x)))) (p x)) (he : ∀ x ∈ xs, p x = true → EvD K te ((Δ.set j none).set j (some (.d (g x)))) (f x)) : EvO K (tLc wi (gName j) tt te vs) Δ ((xs.filter p).map f) := by
  subst hw hv
  intro F0 H0 F H σ m Q q
  refine ha F0 H0 F H σ m _ fun v F1 H1 e1 s1' => ?_
  obtain ⟨a, ws, rfl, h1', s1⟩ := s1'.tup_inv
  have h1 := e1.s.t h1'
  refine ⟨a, rfl, ⟨ws, h1.t⟩, fun D hD => ?_⟩
  have m1 := m.step e1
  refine lc_tup (xs := ws) (fun i H' => ∃ F' acc, Ext F1 H1 F' H' ∧ F' D = none ∧ H' D = some (.lst acc) ∧ IsAll K F' acc (((xs.take i).filter p).map f)) ⟨F1, [], .grow e1.s (.new hD), e1.s.free hD, upd_same, .nil⟩ (fun i H' _ ⟨F', acc, e, _, _, _⟩ => (e.h.t h1).t) ?_ ?_
  · rintro i x H' hi ⟨F', acc, e, hF, hA, hy⟩
    obtain ⟨d, hd, hx⟩ := s1.getV hi
    rw [List.getElem?_map] at hd
    obtain ⟨z, hz', rfl⟩ : ∃ z, xs[i]? = some z ∧ d = g z := by
      cases q : xs[i]? with
      | none => rw [q] at hd; cases hd
      | some z => rw [q] at hd; exact ⟨z, rfl, (Option.some.inj hd).symm⟩
    have hm := List.mem_of_getElem? hz'
    refine ⟨wipe1, lc_turn (((m1.step e).setN (i := j) (x := none)).setD (hx.mono e.f)) e hD hF hA hy (by have := fm_len (p := p) (f := f) (xs := xs) (i := i); omega) (ht z hm) (he z hm) fun F2 H2 acc' e2 hF2 hA2 hy2 => ⟨F2, acc', e2, hF2, hA2, ?_⟩⟩
    rw [fm_step hz']
    exact hy2
  · rintro H' ⟨F', acc, e, hF, hA, hy⟩
    have hl : ws.length = xs.length := by rw [s1.len, List.length_map]
    rw [hl, List.take_length] at hy
    exact q D acc F' H' (e1.trans e) (e1.h.free hD) hF hA hy
theorem evo_lcR {tl : TA} {N : Nat} (p : Nat → Bool) (f : Nat → PyData) (ha : EvB K tl Δ [.int N]) (hv : vs = [j]) (hz : N ≤ 50000)
    (ht : ∀ x, x < N → EvT K tt ((Δ.set j none).set j (some (.d (.int x)))) (p x)) (he : ∀ x, x < N → p x = true → EvD K te ((Δ.set j none).set j (some (.d (.int x)))) (f x)) : EvO K (tLc (iRng1 tl) (gName j) tt te vs) Δ (((List.range N).filter p).map f) := by
  subst hv
  intro F0 H0 F H σ m Q q
  refine ha F0 H0 F H σ m _ fun ws F1 H1 e1 s1 => ?_
  cases s1 with
  | cons s1 s2 =>
    cases s2
    refine ⟨N, by rw [s1.int_inv], by omega, by omega, fun D hD => ?_⟩
    have m1 := m.step e1
    refine lc_range (lo := 0) (n := (N : Int).toNat) (fun i H' => ∃ F' acc, Ext F1 H1 F' H' ∧ F' D = none ∧ H' D = some (.lst acc) ∧ IsAll K F' acc ((((List.range N).take i).filter p).map f)) ⟨F1, [], .grow e1.s (.new hD), e1.s.free hD, upd_same, .nil⟩ ?_ ?_
    · rintro i H' hi ⟨F', acc, e, hF, hA, hy⟩
      have hi' : i < N := by omega
      have hz' : (List.range N)[i]? = some i := by rw [List.getElem?_range hi']
      have e0 : (0 : Int) + (i : Int) = (i : Int) := Int.zero_add _
      rw [e0]
      refine ⟨wipe1, lc_turn (((m1.step e).setN (i := j) (x := none)).setD (.int (i : Int))) e hD hF hA hy (by have := fm_len (p := p) (f := f) (xs := List.range N) (i := i); rw [List.length_range] at this; omega) (ht i hi') (he i hi') fun F2 H2 acc' e2 hF2 hA2 hy2 => ⟨F2, acc', e2, hF2, hA2, ?_⟩⟩
      rw [fm_step hz']
      exact hy2
    · rintro H' ⟨F', acc, e, hF, hA, hy⟩
      rw [Int.toNat_natCast, List.take_of_length_le (by rw [List.length_range]; exact Nat.le_refl _)] at hy
      exact q D acc F' H' (e1.trans e) (e1.h.free hD) hF hA hy
end
theorem evt_yes : EvT K tYes Δ true := fun F0 H0 F H σ m Q q => q F H (.refl m.s)
theorem filter_all {α : Type} (l : List α) : l.filter (fun _ => true) = l := List.filter_eq_self.mpr fun _ _ => rfl
end

/-! ### a def keeps its promise -/
section
variable {P : Program} {w : World} {K : PySem.W.Frag} {mg : Str → Option Value} {base : Heap} {α : Type} {pre : α → Prop} {args : α → List PyData} {out : α → Oc}
/-- the slots at the entry -/
def at0 (N : List Str) (ds : List PyData) : De := ds.map (fun d => some (.d d)) ++ List.replicate (N.length - ds.length) none
theorem m_start {F H : Hp} {N : List Str} {vs : List V} {ds : List PyData} (e : Ex F H) (h : IsAll K F vs ds) : M K F H F H (L2.start N vs) (at0 N ds) := by
  have hl := h.len
  refine ⟨⟨.refl _, .refl _, e, fun _ q _ => q⟩, by unfold L2.start at0; simp [hl], fun i s q => ?_, fun i j a xs ys q _ => ?_⟩
  · unfold at0 at q
    by_cases hi : i < ds.length
    · rw [List.getElem?_append_left (by simpa using hi), List.getElem?_map] at q
      cases r : ds[i]? with
      | none => rw [r] at q; cases q
      | some d =>
        rw [r] at q
        cases q
        obtain ⟨v, h1, h2⟩ := h.get r
        refine ⟨v, ?_, h2⟩
        unfold L2.start
        rw [List.getElem?_append_left (by rw [List.length_map, hl]; exact hi), List.getElem?_map, h1]
        rfl
    · rw [List.getElem?_append_right (by simpa using hi), List.getElem?_replicate] at q
      split at q <;> cases q
  · unfold at0 at q
    by_cases hi : i < ds.length
    · rw [List.getElem?_append_left (by simpa using hi), List.getElem?_map] at q
      cases r : ds[i]? with
      | none => rw [r] at q; cases q
      | some d => rw [r] at q; cases q
    · rw [List.getElem?_append_right (by simpa using hi), List.getElem?_replicate] at q
      split at q <;> cases q
/-- THE RULE for a def: its body as a term, and what that gives over data -/
theorem okO {x qual : Str} {st : Stmt} {f : Addr} {fd : FuncData} {N ps : List Str} {k : Nat} (F : Fun K x qual st f fd) (S : FnScope N ps (defScope st)) (hn : ∀ x, (args x).length = ps.length)
    (hb : ∀ (cdv : Value) (A : Around) (outer : List Env) (s : Shared) (H : Hp) (E : XK), Room k (A.deeper (envOfC qual (defScope st) s.heap.objs.size f cdv)) →
      ∃ t, PSs (cxOf (L2.CX P w) P w K mg base N qual (defScope st) f cdv A outer s H E) (defBody st) t ∧ ∀ x, pre x → Run K mg E t (at0 N (args x)) { nx := fun _ => out x = .ok .none, rt := fun c => out x = c }) :
    FnOk P w K mg base (L2.CX P w) (k + 1) f fd ps (spO K mg pre args out) := by
  refine F.okX S (fun vs H Q E ⟨F', x, _, h, _, _⟩ => by rw [h.len, hn]) fun cdv A outer s H vs Q E hr hs => ?_
  obtain ⟨t, h1, h2⟩ := hb cdv A outer s H E hr
  obtain ⟨F', x, e, h, hp, q⟩ := hs
  refine ⟨t, h1, h2 x hp F' H F' H _ _ (m_start e h) (fun σ' F2 H2 Δ2 e2 m2 r => ?_) (fun _ _ _ _ _ _ r => r.elim) (fun _ _ _ _ _ _ r => r.elim) fun c r => by rw [← r]; exact q⟩
  rw [r] at q
  exact q .non F2 H2 m2.ext .non
end
end Dx

set_option Elab.async false
set_option linter.all false
set_option maxRecDepth 100000
set_option maxHeartbeats 4000000
/-! Dx6: an error caught and kept, isinstance of it, calls by name, the facts of the text. -/
namespace Dx
open PySem PySem.Spec PyProof.Rows L2
section
variable {X : Cx} {pins : List (Addr × Obj)} {σ : L2.St} {H : Hp} {s : Shared}
/-- an object that stands untracked, younger than the entry, is tracked -/
theorem Inv.track {a : Addr} {o : HO} {oe : Obj} {vs : Array Value} (I : Inv X pins σ H s) (h0 : X.s_0.heap.get? a = none) (hL : a ≠ X.env.locals) (hP : ∀ p ∈ X.pn ++ pins, p.1 ≠ a) (he : s.heap.get? a = some oe) (hd : oe.data = .fields vs) (hn : H a = none)
    (new : ObjOk X.prog X.w (upd H a o) s.heap a o) : Inv X pins σ (upd H a o) s := by
  have ne : ∀ b u, H b = some u → b ≠ a := fun b u q => ne_of_none q hn
  have n0 : ∀ b ob, X.s_0.heap.get? b = some ob → b ≠ a := fun b ob q z => by rw [z, h0] at q; cases q
  refine ⟨I.ok, I.os, I.bare, ⟨fun b ob q n hb hx => I.base.keep b ob q n hb hx, fun b ob q n hb hx => I.base.slot b ob q n hb hx, fun b ob q n hx => ?_, I.base.there, fun b xs q => ?_, fun b ob u q => ?_, fun b ps q => ?_⟩, I.loc, I.cell, ?_, fun x c q => ?_, fun p hp => ?_, fun b u q => ?_, I.len⟩
  · rw [upd_ne (n0 b ob q)]; exact I.base.free b ob q n hx
  · have r := I.base.tups b xs q
    rw [upd_ne (ne _ _ r)]; exact r
  · have r := I.base.frzs b ob u q
    rw [upd_ne (ne _ _ r)]; exact r
  · obtain ⟨more, r⟩ := I.base.tbls b ps q
    exact ⟨more, by rw [upd_ne (ne _ _ r)]; exact r⟩
  · rw [upd_ne (Ne.symm hL)]; exact I.free
  · have hc : c ≠ a := fun z => by
      obtain ⟨v, ob, g, dt⟩ := I.cell x c q
      rw [z, he] at g; cases g; rw [hd] at dt; cases dt
    rw [upd_ne hc]; exact I.freeC x c q
  · obtain ⟨g1, g2, g3, g4, g5⟩ := I.pin p hp
    exact ⟨g1, by rw [upd_ne (hP p hp)]; exact g2, g3, g4, g5⟩
  · by_cases z : b = a
    · subst z; rw [upd_same] at q; cases q; exact new
    · rw [upd_ne z] at q
      exact (I.hok b u q).stay (fun _ _ _ r => r) (fun c r => by rw [upd_ne (ne _ _ r)]; exact r) fun c xs r => by rw [upd_ne (ne _ _ r)]; exact r

/-- what is wished of an error of the body: it is of the clause's class, the error itself goes to slot j, the clause's name (slot i) is gone -/
def wKeep (K : PySem.W.Frag) (c : Value) (i j : Nat) (D : Ends) : WX := fun cls d σ H => d = none ∧ ∃ C, cls = .ref C ∧ PySem.W.exmOne K cls c = some true ∧ ∀ a, H a = none → D.nx ((σ.set j (some (.ref a))).set i none) (upd H a (XO C a))
/-- try: body / except x as n: y = n -/
theorem ps_keep {x n y : Str} {c : Value} {i j : Nat} {body : List Stmt} {np n2 yp ap pos pos' : Pos} {tb : WX → TS} (hs : X.stack = X.env :: X.outer) (hf : X.env.frame = some X.env.locals) (hex : X.ex = []) (hN : X.N.Nodup) (hi : X.N[i]? = some n) (hj : X.N[j]? = some y) (hij : i ≠ j)
    (hln : X.env.kindOf n = some .local) (hly : X.env.kindOf y = some .local) (hc : Names X x c) (hsw : swapsWith (.Name n n2) (some (.Name y yp)) ap.line X.env = pure false := by rfl) (hdn : (n == ("__debug__" : Str)) = false := by decide) (hcn : (n == ("__classdict__" : Str)) = false := by decide)
    (hb : ∀ (W : WX) (pn : List (Addr × Obj)) (xe : Value → Shared → Prop), Takes (X.tr pn xe) W → PassesOwn (model X.prog X.w) X.A X.env xe → PSs (X.tr pn xe) body (tb W)) :
    PS X (.Try body [.ExceptHandler (some (.Name x np)) (some n) [.Assign [.Name y yp] (.Name n n2) ap] pos'] [] [] pos) (fun D σ H => tb (wKeep X.K c i j D) D σ H) := by
  refine ⟨fun pins s σ H D I h => ?_⟩
  have okX := I.ok
  have frm : X.A.frames = some (X.env :: X.outer) := by rw [okX.frames, hs]
  let hand : List ExceptHandler := [.ExceptHandler (some (.Name x np)) (some n) [.Assign [.Name y yp] (.Name n n2) ap] pos']
  have takes : Takes (X.tr (X.pn ++ pins) (fun e s1 => wpAny (model X.prog X.w) X.A (noteFrame e X.env) (fun _ s2 => wpAny (model X.prog X.w) X.A (setFlight e none) (fun _ s3 => wpAny (model X.prog X.w) X.A (handleBy e X.env hand) (SP X pins D) X.xe s3) X.xe s2) X.xe s1)) (wKeep X.K c i j D) := by
    intro u s' xx
    obtain ⟨a, B, sI, pins', σ', H', cls, d, rfl, J', nb, up, sky, na, os, ag, hd0, C, hcls, hm, hk⟩ := xx
    subst hd0 hcls
    have J : Inv X pins σ' H' sI := J'.ofTry okX
    have sky2 : Sky B (X.env :: X.outer) a (Zc (.ref C) none) X.env.locals s'.heap := hs ▸ sky
    refine Sky.land Zc.steady frm hf sky2 fun h3 fl3 up3 => ?_
    have J3 : Inv X pins σ' H' { s' with heap := h3 } := J.landed nb fl3.1 (up.trans up3) os ag
    obtain ⟨o3, v3, g3, z3, d3⟩ := fl3.there
    -- where the error does not stand
    have nfr : a ∉ frs X.stack := fun hm' => by
      rw [hs] at hm'
      obtain ⟨_, o', g', nf⟩ := fl3.2.2.1.mem hm'
      rw [g3] at g'; cases g'
      exact nf _ d3
    have nL : a ≠ X.env.locals := fun z => nfr (by rw [hs]; exact List.mem_filterMap.mpr ⟨X.env, List.mem_cons_self, by rw [hf, z]⟩)
    have nF : a ∉ X.fs := fun hm' => nfr (by
      rw [hs]
      obtain ⟨e', he', q'⟩ := List.mem_filterMap.mp hm'
      exact List.mem_filterMap.mpr ⟨e', List.mem_cons_of_mem _ he', q'⟩)
    have nB : B.get? a = none := fl3.2.1
    have nI : ∀ o, sI.heap.get? a ≠ some o := fun o q => by
      have := nb a o q nfr
      rw [nB] at this; cases this
    have n0 : X.s_0.heap.get? a = none := by
      cases q : X.s_0.heap.get? a with
      | none => rfl
      | some o =>
        obtain ⟨o', q'⟩ := J.base.there a o q (by rw [hex]; exact List.not_mem_nil)
        exact absurd q' (nI o')
    have nP : ∀ p ∈ X.pn ++ pins, p.1 ≠ a := fun p hp z => nI p.2 (z ▸ (J.pin p hp).1)
    have S3 := J3.suite g3 d3 na nL nF
    refine wpAny_handleBy_cons (codeAny_handlers_test ?_) (by intro q; cases q)
    have LT : PySem.W.Looks (model X.prog X.w) h3 (typeOf (.ref a)) (.ref C) := fun A Q E s k q => wpAny_typeOf_ref (k _ _ g3) (by rw [z3.1]; exact q)
    have LM := PySem.W.exm_one (M := model X.prog X.w) J3.kIn LT hm
    have test : ∀ {Q E : Value → Shared → Prop}, Q c { s' with heap := h3 } → wpAny (model X.prog X.w) (X.A.mark (some (.ref a))) (eval (.Name x np) X.env) Q E { s' with heap := h3 } := fun {Q E} q => by
      obtain ⟨hg, hdbg, hm1 | ⟨hm1, hv, hnn⟩⟩ := hc
      · exact ld_glob (X := X.suite a ((a, o3) :: (X.pn ++ pins))) S3 hg hm1 q hdbg
      · exact ld_blt (X := X.suite a ((a, o3) :: (X.pn ++ pins))) S3 hg hm1 hv q hnn hdbg
    refine test (LM.here (codeAny_handlers_suite_as ?_))
    refine HandSPX.lands_againZ fl3 fun h4 fl4 up4 => ?_
    have J4 : Inv X pins σ' H' { s' with heap := h4 } := J.landed nb fl4.1 ((up.trans up3).trans up4) os ag
    obtain ⟨o4, v4, g4, z4, d4⟩ := fl4.there
    have S4 := J4.suite g4 d4 na nL nF
    have hl : σ'.length = X.N.length := J.len
    have il : i < σ'.length := by rw [hl]; exact (List.getElem?_eq_some_iff.mp hi).1
    refine store_ok (X := X.suite a ((a, o4) :: (X.pn ++ pins))) (v := .ref a) S4 hN hi (.inl hln) rfl (fun s5 S5 => ?_) (.inr hln)
    -- y = n
    have asg : PS (X.suite a ((a, o4) :: (X.pn ++ pins))) (.Assign [.Name y yp] (.Name n n2) ap) (tAsg (tVar i) (gName j)) :=
      ps_set (X := X.suite a ((a, o4) :: (X.pn ++ pins))) hN hj (.inl hly) (pe_var hi (.inl hln) hdn hcn) hsw (.inr hly)
    have run := (pss_one asg).run [] s5 _ H' { nx := fun σ6 H6 => σ6 = (σ'.set i (some (V.ref a))).set j (some (.ref a)) ∧ H6 = H', rt := fun _ _ => False } S5 ⟨.ref a, by rw [List.getElem?_set_self il], rfl, rfl⟩
    refine wpAny_mono run (fun fl s6 hsp => ?_) (fun _ _ z => False.elim z)
    cases fl with
    | next =>
      obtain ⟨σ6, H6, S6, e6, rfl⟩ := hsp
      have J6 : Inv X ((a, o4) :: pins) σ6 H6 s6 := ⟨okX, S6.os, S6.bare, S6.base, S6.loc, S6.cell, S6.free, S6.freeC, fun p hp => S6.pin p (by
        rcases List.mem_append.mp hp with z | z
        · exact List.mem_append_left _ (List.mem_cons_of_mem _ (List.mem_append_left _ z))
        · rcases List.mem_cons.mp z with z | z
          · rw [z]; exact List.mem_append_left _ List.mem_cons_self
          · exact List.mem_append_left _ (List.mem_cons_of_mem _ (List.mem_append_right _ z))), S6.hok, S6.len⟩
      refine gone_ok J6 hN hi hln fun s7 J7 => ?_
      have g7 := (J7.pin (a, o4) (List.mem_append_right _ List.mem_cons_self)).1
      have J8 : Inv X pins (σ6.set i none) H6 s7 := J7.pins_of fun p hp => J7.pin p (List.mem_append_right _ (List.mem_cons_of_mem _ hp))
      have new : ObjOk X.prog X.w (upd H6 a (XO C a)) s7.heap a (XO C a) := ⟨⟨o4, v4, g7, z4.1, z4.2, d4⟩, ⟨_, g7⟩, fun h1 h2 ⟨oe, ws, q1, q2⟩ kp => ⟨oe, ws, kp _ q1, q2⟩⟩
      have T := Inv.track J8 n0 nL nP g7 d4 na new
      have eσ : (σ'.set j (some (V.ref a))).set i none = σ6.set i none := by
        rw [e6, List.set_comm _ _ hij, List.set_set]
      have := hk a na
      rw [eσ] at this
      exact ⟨_, _, T, this⟩
    | brk => obtain ⟨_, _, _, z⟩ := hsp; exact z.elim
    | cont => obtain ⟨_, _, _, z⟩ := hsp; exact z.elim
    | ret u => obtain ⟨_, _, _, _, _, z⟩ := hsp; exact z.elim
  have body_run := (hb (wKeep X.K c i j D) (X.pn ++ pins) _ takes PassesOwn.looking).run [] s σ H D (I.toTry _) h
  refine wpAny_Try_except (wpAny_mono body_run (fun fl s1 hsp => ?_) (fun _ _ z => z))
  cases fl with
  | next => exact wpAny_execs_nil (let ⟨σ', H', J, q⟩ := hsp; ⟨σ', H', J.ofTry okX, q⟩)
  | brk => exact let ⟨σ', H', J, q⟩ := hsp; ⟨σ', H', J.ofTry okX, q⟩
  | cont => exact let ⟨σ', H', J, q⟩ := hsp; ⟨σ', H', J.ofTry okX, q⟩
  | ret u => exact let ⟨v, σ', H', J, r, q⟩ := hsp; ⟨v, σ', H', J.ofTry okX, r, q⟩

/-! ### isinstance, an error held as a value among the rest -/
def rIsX (K : PySem.W.Frag) : List V → Hp → VK → Prop := fun xs H Q => rIsi K xs H Q ∨ ∃ (a C : Addr) (c : V) (cv : Value) (b : Bool), xs = [.ref a, c] ∧ H a = some (XO C a) ∧ ExcC K C ∧ ClsV c cv ∧ PySem.W.kitOne K (.ref C) cv = some b ∧ Q (.bl b) H
theorem call_isX : CallR X (.builtin "isinstance") (rIsX X.K) := by
  refine call_isi.or ?_
  intro pins s σ H xs us Q I r h
  obtain ⟨a, C, c, cv, b, rfl, ha, ok, hc, e, q⟩ := h
  obtain ⟨u1, u2, rfl, r1, r2⟩ := vals2 r
  have e2 := hc.eq r2
  subst e2
  cases r1
  obtain ⟨⟨oe, vs, h1, h2, h3, h4⟩, _, _⟩ := (show ObjOk X.prog X.w H s.heap a (XO C a) from I.hok a _ ha)
  have J : PySem.W.InstAt s.heap a oe C none := by
    obtain ⟨oc, od, oda, osl⟩ := oe
    dsimp only at h2 h3 h4
    subst h2 h3 h4
    exact ⟨h1, rfl, rfl, trivial⟩
  exact PySem.W.kia_one (PySem.W.handS_kitx_exc ok.hg ok.hk ok.hs ok.hd ok.ha ok.hn ok.ht ok.hm) I.kIn J e (fun z => nomatch z) fun tk => ⟨.bl b, H, I.kept (t' := tk) fun _ _ z => z, rfl, q⟩
end
section
variable {K K' : PySem.W.Frag} {mg : Str → Option Value} {E : XK} {Δ : De} {o : Out} {te ta tb : TE} {d : PyData} {tl : TA}
theorem evd_is {n : String} {b : Bool} (ha : EvR K ta Δ d) (hb : kitB (tyOf d) n = some b) (hx : isX d = false := by rfl) (hK : K' = K := by rfl) : EvD K (tCB (rIsX K') (tCons ta (tCons (tC (.ty n)) tNil))) Δ (.bool b) := by
  subst hK
  intro F0 H0 F H σ m Q q
  refine ha F0 H0 F H σ m _ fun v F1 H1 e1 s1 => ?_
  exact .inl ⟨v, .ty n, .type (tyOf d), .type n, b, rfl, .ty n, s1.ty hx, kit_ty hb, q _ F1 H1 e1 (.bl b)⟩
/-- .. of an own class -/
theorem evd_isC {C : Addr} {b : Bool} (ha : EvR K ta Δ d) (hb : PySem.W.kitOne K (.type (tyOf d)) (.ref C) = some b) (hx : isX d = false := by rfl) (hK : K' = K := by rfl) : EvD K (tCB (rIsX K') (tCons ta (tCons (tC (.ref C)) tNil))) Δ (.bool b) := by
  subst hK
  intro F0 H0 F H σ m Q q
  refine ha F0 H0 F H σ m _ fun v F1 H1 e1 s1 => ?_
  exact .inl ⟨v, .ref C, .type (tyOf d), .ref C, b, rfl, .own C, s1.ty hx, hb, q _ F1 H1 e1 (.bl b)⟩
/-- an error, of an own class; of a built-in one -/
theorem evd_isE {C D : Addr} {b : Bool} (ha : EvR K ta Δ (excD D)) (ok : ExcC K D) (hb : PySem.W.kitOne K (.ref D) (.ref C) = some b) (hK : K' = K := by rfl) : EvD K (tCB (rIsX K') (tCons ta (tCons (tC (.ref C)) tNil))) Δ (.bool b) := by
  subst hK
  intro F0 H0 F H σ m Q q
  refine ha F0 H0 F H σ m _ fun v F1 H1 e1 s1 => ?_
  obtain ⟨a, rfl, h⟩ := s1.exc_inv
  exact .inr ⟨a, D, .ref C, .ref C, b, rfl, h, ok, .own C, hb, q _ F1 H1 e1 (.bl b)⟩
theorem evd_isEB {n : String} {D : Addr} {b : Bool} (ha : EvR K ta Δ (excD D)) (ok : ExcC K D) (hb : PySem.W.kitOne K (.ref D) (.type n) = some b) (hK : K' = K := by rfl) : EvD K (tCB (rIsX K') (tCons ta (tCons (tC (.ty n)) tNil))) Δ (.bool b) := by
  subst hK
  intro F0 H0 F H σ m Q q
  refine ha F0 H0 F H σ m _ fun v F1 H1 e1 s1 => ?_
  obtain ⟨a, rfl, h⟩ := s1.exc_inv
  exact .inr ⟨a, D, .ty n, .type n, b, rfl, h, ok, .ty n, hb, q _ F1 H1 e1 (.bl b)⟩

/-! ### the body of a try -/
def RunW (K : PySem.W.Frag) (mg : Str → Option Value) (tb : WX → TS) (Δ : De) (nx : De → Prop) (exc : Str → Prop) : Prop := ∀ F0 H0 F H σ (D : Ends) (W : WX), M K F0 H0 F H σ Δ →
  (∀ σ' F' H' Δ', Ex F F' → M K F0 H0 F' H' σ' Δ' → nx Δ' → D.nx σ' H') → (∀ c C F' H', exc c → Ext F H F' H' → mg c = some (.ref C) → W (.ref C) none σ H') → tb W D σ H
theorem run_keep {tb : WX → TS} {c : Value} {i j : Nat} (h : RunW K mg tb Δ o.nx fun c' => ∀ C, mg c' = some (.ref C) → PySem.W.exmOne K (.ref C) c = some true ∧ o.nx ((Δ.set j (some (.d (excD C)))).set i none)) (hK : K' = K := by rfl) :
    Run K mg E (fun D σ H => tb (wKeep K' c i j D) D σ H) Δ o := by
  subst hK
  intro F0 H0 F H σ D m a _ _ _
  refine h F0 H0 F H σ D _ m a fun c' C F' H' hc e g => ?_
  obtain ⟨h1, h2⟩ := hc C g
  refine ⟨rfl, C, rfl, h1, fun p hp => ?_⟩
  have e2 := Ext.new (o := XO C p) e.s hp
  exact a _ _ _ _ (e.f.trans e2.f) (((m.step (e.trans e2)).setD (.exc upd_same)).setN) h2
theorem rw_if {tc : TT} {t u : WX → TS} {b : Bool} {nx : De → Prop} {exc : Str → Prop} (hc : EvT K tc Δ b) (h1 : b = true → RunW K mg t Δ nx exc) (h2 : b = false → RunW K mg u Δ nx exc) : RunW K mg (fun W => tIfS tc (t W) (u W)) Δ nx exc := by
  intro F0 H0 F H σ D W m a r
  refine hc F0 H0 F H σ m _ fun F1 H1 e => ?_
  have up : ∀ {p : WX → TS}, RunW K mg p Δ nx exc → p W D σ H1 := fun {p} h => h F0 H0 F1 H1 σ D W (m.step e) (fun σ' F' H' Δ' e' m' q => a σ' F' H' Δ' (e.f.trans e') m' q) fun c C F' H' hc e' g => r c C F' H' hc (e.trans e') g
  cases b with
  | true => exact iteT (up (h1 rfl))
  | false => exact iteF (up (h2 rfl))
section
variable {α : Type} {pre : α → Prop} {args : α → List PyData} {out : α → Oc} {nx : De → Prop} {exc : Str → Prop}
theorem rw_drop (x : α) (ha : EvA K tl Δ (args x)) (hp : pre x) (ho : (∃ d, out x = .ok d ∧ nx Δ) ∨ (∃ xs, out x = .own xs ∧ nx Δ) ∨ ∃ c, out x = .ex c ∧ exc c) : RunW K mg (fun W => tDrop (tCallS (spO K mg pre args out) (WE W) tl)) Δ nx exc := by
  intro F0 H0 F H σ D W m a r
  refine ha F0 H0 F H σ m _ fun vs F1 H1 e1 s1 => ⟨F1, x, e1.s, s1, hp, ?_⟩
  rcases ho with ⟨d, ho, hn⟩ | ⟨xs, ho, hn⟩ | ⟨c, ho, hc⟩
  · rw [ho]; exact fun v F2 H2 e2 _ => a σ F2 H2 Δ (e1.trans e2).f (m.step (e1.trans e2)) hn
  · rw [ho]; exact fun p vs F2 H2 e2 _ _ _ _ => a σ F2 H2 Δ (e1.trans e2).f (m.step (e1.trans e2)) hn
  · rw [ho]; exact fun C F2 H2 e2 g => r c C F2 H2 hc (e1.trans e2) g
theorem rw_set {i : Nat} (x : α) (ha : EvA K tl Δ (args x)) (hp : pre x) (ho : (∃ d, out x = .ok d ∧ nx (Δ.set i (some (.d d)))) ∨ ∃ c, out x = .ex c ∧ exc c) : RunW K mg (fun W => tAsg (tCallS (spO K mg pre args out) (WE W) tl) (gName i)) Δ nx exc := by
  intro F0 H0 F H σ D W m a r
  refine ha F0 H0 F H σ m _ fun vs F1 H1 e1 s1 => ⟨F1, x, e1.s, s1, hp, ?_⟩
  rcases ho with ⟨d, ho, hn⟩ | ⟨c, ho, hc⟩
  · rw [ho]; exact fun v F2 H2 e2 s2 => a _ F2 H2 _ (e1.trans e2).f ((m.step (e1.trans e2)).setD s2) hn
  · rw [ho]; exact fun C F2 H2 e2 g => r c C F2 H2 hc (e1.trans e2) g
end
end

/-! ### a name of the module that holds a known value -/
structure Co (mg : Str → Option Value) (x : Str) (v : V) : Prop where
  ex : ∃ u, mg x = some u ∧ RelV v u
theorem pe_co {X : Cx} {x : Str} {v : V} {pos : Pos} (hg : Gl X x) (c : Co X.mg x v) (hd : (x == ("__debug__" : Str)) = false := by decide) : PE X (.Name x pos) (tC v) := by
  obtain ⟨u, h1, h2⟩ := c.ex
  exact pe_glob hg h1 h2 hd
/-! ### calls by name -/
/-- a def of the text, with its promise -/
structure Cl (P : Program) (w : World) (K : PySem.W.Frag) (mg : Str → Option Value) (base : Heap) (x : Str) (ps : List Str) (k : Nat) (sp : Sp) : Prop where
  ex : ∃ f fd, FnOk P w K mg base (L2.CX P w) k f fd ps sp ∧ mg x = some (.ref f) ∧ PySem.W.keepIn K (.ref f) = true ∧ Binds K fd ps []
/-- a def as the top has left it -/
structure At (K : PySem.W.Frag) (mg : Str → Option Value) (x : Str) (st : Stmt) (ps : List Str) : Prop where
  ex : ∃ f fd, Fun K x x st f fd ∧ mg x = some (.ref f) ∧ Binds K fd ps []
section
variable {X : Cx} {e : Expr} {es : List Expr} {t : TA} {p pos : Pos} {x : Str} {ps : List Str} {k : Nat} {sp : Sp} {E : XK}
theorem pe_c (c : Cl X.prog X.w X.K X.mg X.base x ps k sp) (hr : Room k X.A) (hg : Gl X x) (hx : Passes (L2.CX X.prog X.w) X E) (ha : PA X (e :: es) t) (hdb : (x == ("__debug__" : Str)) = false := by decide)
    (he : starEach (e :: es) X.env = (false, eval e X.env) :: starEach es X.env := by rfl) (hpl : (backTo pos (starEach es X.env)).any (·.1) = false := by rfl) : PE X (.Call (.Name x p) (e :: es) [] pos) (tCall sp [] E t) := by
  obtain ⟨f, fd, F, hm, hk, hb⟩ := c.ex
  exact pe_call F hr hg hm hk hb .nil hx ha hdb he hpl
/-- .. in the body of a try -/
theorem pe_cS {W : WX} (c : Cl X.prog X.w X.K X.mg X.base x ps k sp) (hr : Room k X.A) (hg : Gl X x) (tk : Takes X W) (ha : PA X (e :: es) t) (hdb : (x == ("__debug__" : Str)) = false := by decide)
    (he : starEach (e :: es) X.env = (false, eval e X.env) :: starEach es X.env := by rfl) (hpl : (backTo pos (starEach es X.env)).any (·.1) = false := by rfl) : PE X (.Call (.Name x p) (e :: es) [] pos) (tCallS sp (WE W) t) := by
  obtain ⟨f, fd, F, hm, hk, hb⟩ := c.ex
  exact pe_callS F hr hg hm hk hb (fun σ => passAt tk σ) ha hdb he hpl
end
/-- an own class of errors, straight or not under ValueError -/
structure XC (K : PySem.W.Frag) (mg : Str → Option Value) (c : Str) (C : Addr) : Prop where
  g : mg c = some (.ref C)
  x : PySem.W.excIn K C [.type "ValueError", .type "Exception", .type "BaseException", .type "object"] "ValueError.__new__" = true
  k : PySem.W.keepIn K (.ref C) = true
  b : PySem.W.subIn K (.ref C) (.type "BaseException") = some true
  t : PySem.W.typeIn K (.ref C) = some (.type "type")
theorem ps_rz {X : Cx} {C : Addr} {c m : Str} {j : Nat} {p p2 pos pos' : Pos} {E : XK} (T : XC X.K X.mg c C) (hc : X.calm = true) (tk : Takes X (fun cls d _ H => E cls d H)) (hg : Gl X c) (hdb : (c == ("__debug__" : Str)) = false := by decide) :
    PS X (.Raise (some (.Call (.Name c p) [.Constant (.str m) j p2] [] pos)) none pos') (tRz E C) :=
  ps_raise hc tk (pmk_own PySem.F.excBase_ValueError T.x T.g T.k (raises_own T.b T.t) hg hdb)
end Dx

set_option Elab.async false
set_option linter.all false
set_option maxRecDepth 100000
set_option maxHeartbeats 4000000
/-! Dx7: comprehensions without a test, pairs at once, unpacking, swaps. -/
namespace Dx
open PySem PySem.Spec PyProof.Rows L2
section
variable {K : PySem.W.Frag} {mg : Str → Option Value} {E : XK} {Δ : De} {o : Out} {te ta : TE} {α : Type} {g f : α → PyData} {j : Nat} {vs : List Nat} {d e : PyData}
theorem evo_mapL {wi : TI} (xs : List α) (f : α → PyData) (ha : EvL K ta Δ (xs.map g)) (hw : wi = iList K ta) (hv : vs = [j]) (hz : xs.length ≤ 50000) (he : ∀ x ∈ xs, EvD K te ((Δ.set j none).set j (some (.d (g x)))) (f x)) : EvO K (tLc wi (gName j) tYes te vs) Δ (xs.map f) :=
  evo_eq (evo_lcL (fun _ => true) f ha hw hv hz (fun _ _ => evt_yes) fun x hx _ => he x hx) (by rw [filter_all])
theorem evo_mapT {wi : TI} (xs : List α) (f : α → PyData) (ha : EvD K ta Δ (.tuple (xs.map g))) (hw : wi = iTup K ta) (hv : vs = [j]) (hz : xs.length ≤ 50000) (he : ∀ x ∈ xs, EvD K te ((Δ.set j none).set j (some (.d (g x)))) (f x)) : EvO K (tLc wi (gName j) tYes te vs) Δ (xs.map f) :=
  evo_eq (evo_lcT (fun _ => true) f ha hw hv hz (fun _ _ => evt_yes) fun x hx _ => he x hx) (by rw [filter_all])
theorem evo_mapT' {wi : TI} {xs : List PyData} (f : PyData → PyData) (ha : EvD K ta Δ (.tuple xs)) (hw : wi = iTup K ta) (hv : vs = [j]) (hz : xs.length ≤ 50000) (he : ∀ x ∈ xs, EvD K te ((Δ.set j none).set j (some (.d x))) (f x)) : EvO K (tLc wi (gName j) tYes te vs) Δ (xs.map f) :=
  evo_mapT (g := id) xs f (evd_eq ha (by rw [List.map_id])) hw hv hz he
theorem evo_mapL' {wi : TI} {xs : List PyData} (f : PyData → PyData) (ha : EvL K ta Δ xs) (hw : wi = iList K ta) (hv : vs = [j]) (hz : xs.length ≤ 50000) (he : ∀ x ∈ xs, EvD K te ((Δ.set j none).set j (some (.d x))) (f x)) : EvO K (tLc wi (gName j) tYes te vs) Δ (xs.map f) :=
  evo_mapL (g := id) xs f (evl_eq ha (by rw [List.map_id])) hw hv hz he
theorem evo_mapR {tl : TA} {N : Nat} (f : Nat → PyData) (ha : EvB K tl Δ [.int N]) (hv : vs = [j]) (hz : N ≤ 50000) (he : ∀ x, x < N → EvD K te ((Δ.set j none).set j (some (.d (.int x)))) (f x)) : EvO K (tLc (iRng1 tl) (gName j) tYes te vs) Δ ((List.range N).map f) :=
  evo_eq (evo_lcR (fun _ => true) f ha hv hz (fun _ _ => evt_yes) fun x hx _ => he x hx) (by rw [filter_all])
/-- i, j = a, b -/
theorem run_par {i j : Nat} {tl : TA} (ha : EvA K tl Δ [d, e]) (h : o.nx ((Δ.set i (some (.d d))).set j (some (.d e)))) : Run K mg E (tPar i j tl) Δ o := fun F0 H0 F H σ D m a _ _ _ =>
  ha F0 H0 F H σ m _ fun vs F1 H1 e1 s1 => by
    cases s1 with
    | cons q1 q2 =>
      cases q2 with
      | cons q2 q3 =>
        cases q3
        exact ⟨_, _, rfl, a _ F1 H1 _ e1.f (((m.step e1).setD q1).setD q2) h⟩
/-- i, j = a tuple of two -/
theorem run_unpack {K' : PySem.W.Frag} {i j : Nat} (ha : EvD K te Δ (.tuple [d, e])) (h : o.nx ((Δ.set i (some (.d d))).set j (some (.d e)))) (hK : K' = K := by rfl) : Run K mg E (tAsg te (gTup K' 2 (gCons (gName i) (gCons (gName j) gNil)))) Δ o := by
  subst hK
  intro F0 H0 F H σ D m a _ _ _
  refine ha F0 H0 F H σ m _ fun v F1 H1 e1 s1 => ?_
  obtain ⟨p, xs, rfl, h1, h2⟩ := s1.tup_inv
  cases h2 with
  | cons q1 q2 =>
    cases q2 with
    | cons q2 q3 =>
      cases q3
      exact ⟨p, _, rfl, (e1.s.t h1).t, rfl, _, _, rfl, _, _, rfl, rfl, a _ F1 H1 _ e1.f (((m.step e1).setD q1).setD q2) h⟩
/-- name += int, name *= int -/
theorem run_aug {i : Nat} {op : Int → Int → Int} {a b : Int} (hi : Δ[i]? = some (some (.d (.int a)))) (he : EvR K te Δ (.int b)) (h : o.nx (Δ.set i (some (.d (.int (op a b)))))) : Run K mg E (tAug i te (ipI op)) Δ o := fun F0 H0 F H σ D m k _ _ _ => by
  obtain ⟨v, h1, h2⟩ := m.d hi
  exact ⟨v, h1, he F0 H0 F H σ m _ fun w F1 H1 e1 s1 => ⟨a, b, h2.int_inv, s1.int_inv, k _ F1 H1 _ e1.f ((m.step e1).setD (.int _)) h⟩⟩
end
end Dx

set_option Elab.async false
set_option linter.all false
set_option maxRecDepth 100000
set_option maxHeartbeats 4000000
/-! Dx8: a comprehension over pairs; types by name. -/
namespace Dx
open PySem PySem.Spec PyProof.Rows L2
section
variable {K : PySem.W.Frag} {mg : Str → Option Value} {E : XK} {Δ : De} {o : Out} {te ta : TE} {α : Type} {i j : Nat} {vs : List Nat} {d e : PyData}
theorem wipe2 {σ : L2.St} {i j : Nat} {x y : Option V} (h : i ≠ j) : wipe (((wipe σ [i, j]).set i x).set j y) [i, j] = wipe σ [i, j] := by
  show (((((σ.set j none).set i none).set i x).set j y).set j none).set i none = (σ.set j none).set i none
  rw [List.set_set, List.set_set, List.set_comm _ _ h, List.set_set, List.set_set]
theorem evo_lcL2 {xs : List α} {wi : TI} {tt : TT} {K' : PySem.W.Frag} {g1 g2 : α → PyData} (p : α → Bool) (f : α → PyData) (ha : EvL K ta Δ (xs.map fun x => .tuple [g1 x, g2 x])) (hw : wi = iList K ta) (hv : vs = [i, j]) (hij : i ≠ j) (hz : xs.length ≤ 50000)
    (ht : ∀ x ∈ xs, EvT K tt ((((Δ.set j none).set i none).set i (some (.d (g1 x)))).set j (some (.d (g2 x)))) (p x)) (he : ∀ x ∈ xs, p x = true → EvD K te ((((Δ.set j none).set i none).set i (some (.d (g1 x)))).set j (some (.d (g2 x)))) (f x)) (hK : K' = K := by rfl) :
    EvO K (tLc wi (gTup K' 2 (gCons (gName i) (gCons (gName j) gNil))) tt te vs) Δ ((xs.filter p).map f) := by
  subst hw hv hK
  intro F0 H0 F H σ m Q q
  refine ha F0 H0 F H σ m _ fun a ws F1 H1 e1 h1 s1 => ⟨a, rfl, ⟨ws, .inl (.inl h1)⟩, fun D hD => ?_⟩
  have m1 := m.step e1
  refine lc_list (xs := ws) (fun i H' => ∃ F' acc, Ext F1 H1 F' H' ∧ F' D = none ∧ H' D = some (.lst acc) ∧ IsAll K' F' acc (((xs.take i).filter p).map f)) ⟨F1, [], .grow e1.s (.new hD), e1.s.free hD, upd_same, .nil⟩ (fun i H' _ ⟨F', acc, e, _, _, _⟩ => .inl (.inl (e.h _ _ h1))) ?_ ?_
  · rintro k x H' hi ⟨F', acc, e, hF, hA, hy⟩
    obtain ⟨d, hd, hx⟩ := s1.getV hi
    rw [List.getElem?_map] at hd
    obtain ⟨z, hz', rfl⟩ : ∃ z, xs[k]? = some z ∧ d = .tuple [g1 z, g2 z] := by
      cases q : xs[k]? with
      | none => rw [q] at hd; cases hd
      | some z => rw [q] at hd; exact ⟨z, rfl, (Option.some.inj hd).symm⟩
    have hm := List.mem_of_getElem? hz'
    obtain ⟨pt, us, rfl, h3, h4⟩ := hx.tup_inv
    cases h4 with
    | cons q1 q2 =>
      cases q2 with
      | cons q2 q3 =>
        cases q3
        refine ⟨pt, _, rfl, ((e.s.t (e.f.t h3))).t, rfl, _, _, rfl, _, _, rfl, rfl, wipe2 hij, lc_turn (((((m1.step e).setN (i := j) (x := none)).setN (i := i) (x := none)).setD (q1.mono e.f)).setD (q2.mono e.f)) e hD hF hA hy (by have := fm_len (p := p) (f := f) (xs := xs) (i := k); omega) (ht z hm) (he z hm) fun F2 H2 acc' e2 hF2 hA2 hy2 => ⟨F2, acc', e2, hF2, hA2, ?_⟩⟩
        rw [fm_step hz']
        exact hy2
  · rintro H' ⟨F', acc, e, hF, hA, hy⟩
    have hl : ws.length = xs.length := by rw [s1.len, List.length_map]
    rw [hl, List.take_length] at hy
    exact q D acc F' H' (e1.trans e) (e1.h.free hD) hF hA hy
/-- a statement that leaves the names just so, whichever way it goes -/
theorem run_seqE {t u : TS} (Δ1 : De) (h : Run K mg E t Δ { nx := fun Δ' => Δ' = Δ1, rt := fun _ => False }) (h2 : Run K mg E u Δ1 o) : Run K mg E (tSeq t u) Δ o :=
  run_seq (h.imp (fun Δ' q => by subst q; exact h2) (fun _ q => q.elim) (fun _ q => q.elim) (fun _ q => q.elim))
theorem evd_dnew : EvD K tDNewK Δ (.dict []) := fun F0 H0 F H σ m Q q a ha => q _ _ _ (Ext.new m.s ha) (.dct upd_same)
theorem getD_some {α : Type} {l : List α} {n : Nat} (d : α) (h : n < l.length) : l[n]? = some (l.getD n d) := by
  rw [List.getD_eq_getElem?_getD, List.getElem?_eq_getElem h]; rfl
theorem pe_cls {X : Cx} {x : Str} {C : Addr} {pos : Pos} (hg : Gl X x) (T : XC X.K X.mg x C) (hd : (x == ("__debug__" : Str)) = false := by decide) : PE X (.Name x pos) (tC (.ref C)) := pe_glob (v := .ref C) hg T.g rfl hd
abbrev rLenK (K : PySem.W.Frag) : List V → Hp → VK → Prop := fun xs H Q => ∃ p ys, xs = [.ref p] ∧ (SqL K H p ys ∨ SqT K H p ys) ∧ Q (.int ys.length) H
abbrev rListK (K : PySem.W.Frag) : List V → Hp → VK → Prop := fun xs H Q => ∃ p ys, xs = [.ref p] ∧ (SqL K H p ys ∨ SqT K H p ys) ∧ ∀ l, H l = none → Q (.ref l) (upd H l (.lst ys))
theorem lenOk {n m : Nat} (h : Nat.ble n m = true) : n ≤ m := Nat.le_of_ble_eq_true h
theorem cut_take {α : Type} (f : α → PyData) (ds : List α) {a : Nat} (h : a ≤ ds.length) : cutD (ds.map f) none (some (a : Int)) = (ds.take a).map f := by
  unfold cutD
  rw [HT.sIx_nat, HT.sIx_none, List.length_map, List.drop_zero, Nat.sub_zero, Nat.min_eq_left h, List.map_take]
theorem cut_drop {α : Type} (f : α → PyData) (ds : List α) {a : Nat} (h : a ≤ ds.length) : cutD (ds.map f) (some (a : Int)) none = (ds.drop a).map f := by
  unfold cutD
  rw [HT.sIx_nat, HT.sIx_none, List.length_map, Nat.min_eq_left h, ← List.map_drop, List.take_of_length_le (by rw [List.length_map, List.length_drop]; exact Nat.le_refl _)]
end
end Dx

set_option Elab.async false
set_option linter.all false
set_option maxRecDepth 100000
set_option maxHeartbeats 4000000
/-! Dx9: the module's own tables, swaps in a list, lists that stay as they are. -/
namespace Dx
open PySem PySem.Spec PyProof.Rows L2
/-- a table of the module: texts to data that stands -/
def KD (K : PySem.W.Frag) (w : World) (a : Addr) (kvs : List (Str × PyData)) : Prop := ∀ p ∈ kvs, ∃ v, KDct K w a p.1 v ∧ ∀ F : Hp, Is K F v p.2
theorem kd_nil {K : PySem.W.Frag} {w : World} {a : Addr} : KD K w a [] := fun _ h => nomatch h
theorem kd_cons {K : PySem.W.Frag} {w : World} {a : Addr} {es : Array DictEntry} {n : Nat} {x : Str} {u : Value} {v : V} {d : PyData} {kvs : List (Str × PyData)} (l : K.lookup a = some ⟨.type "dict", none, .dict es n, #[]⟩) (k : PySem.W.KeysLit w.params es.toList) (e : PySem.W.nsIn K a x = some (some u)) (r : RelV v u) (s : ∀ F : Hp, Is K F v d) (h : KD K w a kvs) : KD K w a ((x, d) :: kvs) := fun p hp => by
  rcases List.mem_cons.mp hp with rfl | hp
  · exact ⟨v, ⟨es, n, u, l, k, e, r⟩, s⟩
  · exact h p hp
theorem is_tupK {K : PySem.W.Frag} {a : Addr} {its : Array Value} {n : Nat} {sl : Array (Option Value)} {vs : List V} {ds : List PyData} (l : K.lookup a = some ⟨.type "tuple", none, .seq its n, sl⟩) (hz : its.size ≤ sizeLine) (r : Vals vs its.toList) (s : ∀ F : Hp, IsAll K F vs ds) (F : Hp) : Is K F (.ref a) (.tuple ds) :=
  .tup (.inr ⟨_, its, n, l, rfl, rfl, rfl, hz, r⟩) (s F)
section
variable {K K' : PySem.W.Frag} {mg : Str → Option Value} {E : XK} {Δ : De} {o : Out} {t : TS} {te ta tb tc : TE} {tl : TA} {xs : List PyData} {d e : PyData} {i : Nat} {a : Addr}
theorem evd_kd {w : World} {b : Addr} {kvs : List (Str × PyData)} {z : Str} (hd : KD K w b kvs) (hb : EvR K tb Δ (.str z)) (hm : (z, d) ∈ kvs) (hK : K' = K := by rfl) : EvD K (tOp (rIxD K' w) (tC (.ref b)) tb) Δ d := by
  subst hK
  intro F0 H0 F H σ m Q q
  obtain ⟨v, k1, k2⟩ := hd _ hm
  refine hb F0 H0 F H σ m _ fun u F1 H1 e1 s1 => ?_
  exact ⟨b, z, v, rfl, s1.str_inv, k1, q _ F1 H1 e1 (k2 F1)⟩
/-- a list of one's own that is written no more -/
theorem M.freeze {F0 H0 F H : Hp} {σ : L2.St} (m : M K F0 H0 F H σ Δ) (hi : Δ[i]? = some (some (.l a xs))) : ∃ F', Ex F F' ∧ M K F0 H0 F' H σ (Δ.set i (some (.d (.list xs)))) := by
  obtain ⟨v, hv, rfl, h0, hf, vs, h, hs⟩ := m.ok i _ hi
  have il : i < Δ.length := (List.getElem?_eq_some_iff.mp hi).1
  have eF : Ex F (upd F a (.lst vs)) := .new hf
  refine ⟨upd F a (.lst vs), eF, m.ext.frz h0 hf h, by simp [m.len], fun j s q => ?_, fun j k b ys zs p q => ?_⟩
  · by_cases z : i = j
    · subst z
      rw [List.getElem?_set_self il] at q
      cases q
      exact ⟨_, hv, .lst upd_same (hs.mono eF)⟩
    · rw [List.getElem?_set_ne z] at q
      obtain ⟨v, h1, h2⟩ := m.ok j s q
      refine ⟨v, h1, ?_⟩
      cases s with
      | d d => exact Is.mono h2 eF
      | v u => exact h2
      | l b ys =>
        obtain ⟨e1, e2, e3, ws, e4, e5⟩ := h2
        have ne : b ≠ a := fun z2 => by
          subst z2
          exact z (m.ap i j _ _ _ hi q)
        exact ⟨e1, e2, by rw [upd_ne ne]; exact e3, ws, e4, e5.mono eF⟩
  · by_cases z : i = j
    · subst z; rw [List.getElem?_set_self il] at p; cases p
    · by_cases z2 : i = k
      · subst z2; rw [List.getElem?_set_self il] at q; cases q
      · rw [List.getElem?_set_ne z] at p
        rw [List.getElem?_set_ne z2] at q
        exact m.ap j k b ys zs p q
theorem run_frz (hi : Δ[i]? = some (some (.l a xs))) (h : Run K mg E t (Δ.set i (some (.d (.list xs)))) o) : Run K mg E t Δ o := fun F0 H0 F H σ D m b c d' r => by
  obtain ⟨F', e, m'⟩ := m.freeze hi
  exact h F0 H0 F' H σ D m' (fun σ2 F2 H2 Δ2 e2 m2 q2 => b σ2 F2 H2 Δ2 (e.trans e2) m2 q2) (fun σ2 F2 H2 Δ2 e2 m2 q2 => c σ2 F2 H2 Δ2 (e.trans e2) m2 q2) (fun σ2 F2 H2 Δ2 e2 m2 q2 => d' σ2 F2 H2 Δ2 (e.trans e2) m2 q2) r
/-- script[lo:hi] -/
theorem evo_scrSl {ns : List Int} {tl th : TO} {lo hi : Option Int} (ha : EvR K te Δ (scrD ns)) (hl : EvI K tl Δ lo) (hh : EvI K th Δ hi) (hK : K' = K := by rfl) : EvO K (tSl (rSlL K') te tl th) Δ (cutD (ns.map PyData.int) lo hi) := by
  subst hK
  intro F0 H0 F H σ m Q q
  refine ha F0 H0 F H σ m _ fun v F1 H1 e1 s1 => hl F0 H0 F1 H1 σ (m.step e1) _ fun F2 H2 e2 => hh F0 H0 F2 H2 σ (m.step (e1.trans e2)) _ fun F3 H3 e3 => ?_
  obtain ⟨a, rfl, h1⟩ := s1.scr_inv
  have E := e2.trans e3
  refine ⟨a, ns.map V.int, rfl, E.h.l h1, newO E.s ((isInts F3 ns).cut lo hi) fun p ws F4 H4 e4 hp hf h4 s4 => q p ws F4 H4 (e1.trans (E.trans e4)) ((e1.trans E).h.free hp) hf h4 s4⟩
/-- xs[j], xs[k] = d, e -/
theorem run_swap {n m' : Int} {j k : Nat} (hi : Δ[i]? = some (some (.l a xs))) (he : EvA K tl Δ [d, e]) (hb : EvR K tb Δ (.int n)) (hj : ixN xs.length n = some j) (hc : EvR K tc (Δ.set i (some (.l a (xs.set j d)))) (.int m')) (hk : ixN xs.length m' = some k) (h : o.nx (Δ.set i (some (.l a ((xs.set j d).set k e))))) (hK : K' = K := by rfl) :
    Run K mg E (tAsg (tTupF tl) (gTup K' 2 (gCons (gSub (tVar i) tb rSetL) (gCons (gSub (tVar i) tc rSetL) gNil)))) Δ o := by
  subst hK
  intro F0 H0 F H σ D m kk _ _ _
  obtain ⟨v, h1, rfl, h2, h3, vs, h4, h5⟩ := m.ok i _ hi
  have il : i < Δ.length := (List.getElem?_eq_some_iff.mp hi).1
  refine he F0 H0 F H σ m _ fun ws F1 H1 e1 s1 => ⟨by rw [s1.len]; exact lenOk rfl, fun p ob hp hd => ?_⟩
  have m1 := m.step (e1.trans (Ext.new (o := .frz ob (.tup ws)) e1.s hp))
  have s1' := s1.mono (.new (o := .frz ob (.tup ws)) (e1.s.free hp))
  refine ⟨p, ws, rfl, .inl (.inr ⟨ob, upd_same⟩), s1.len, ?_⟩
  cases s1' with
  | cons q1 q2 =>
    cases q2 with
    | cons q2 q3 =>
      cases q3
      obtain ⟨v1, g1, rfl, g2, g3, us, g4, g5⟩ := m1.ok i _ hi
      refine ⟨_, _, rfl, ⟨_, h1, hb F0 H0 _ _ σ m1 _ fun z F2 H2 e2 s2 => ⟨a, us, n, j, rfl, s2.int_inv, e2.h _ _ g4, by rw [g5.len]; exact hj, ?_⟩⟩⟩
      have m2 := (m1.step e2).upL hi ((g5.mono e2.f).set j (q1.mono e2.f))
      have hi2 : (Δ.set i (some (.l a (xs.set j d))))[i]? = some (some (.l a (xs.set j d))) := List.getElem?_set_self il
      obtain ⟨v3, g1', rfl, g2', g3', us2, g4', g5'⟩ := m2.ok i _ hi2
      refine ⟨_, _, rfl, ⟨_, h1, hc F0 H0 _ _ σ m2 _ fun z F3 H3 e3 s3 => ⟨a, us2, m', k, rfl, s3.int_inv, e3.h _ _ g4', by rw [g5'.len, List.length_set]; exact hk, ?_⟩⟩⟩
      have m3 := (m2.step e3).upL hi2 ((g5'.mono e3.f).set k (q2.mono (e2.f.trans e3.f)))
      rw [List.set_set] at m3
      exact ⟨rfl, kk _ _ _ _ (((e1.trans (Ext.new (o := .frz ob (.tup _)) e1.s hp)).f.trans e2.f).trans e3.f) m3 h⟩
end
end Dx

set_option Elab.async false
set_option linter.all false
/-! Ma: the plain functions behind the program. -/
namespace Sf
open PySem L2 Dx
theorem kt_NoneType_int : kitB "NoneType" "int" = some false := by decide +kernel
theorem kt_NoneType_bool : kitB "NoneType" "bool" = some false := by decide +kernel
theorem kt_NoneType_tuple : kitB "NoneType" "tuple" = some false := by decide +kernel
theorem kt_NoneType_str : kitB "NoneType" "str" = some false := by decide +kernel
theorem kt_NoneType_list : kitB "NoneType" "list" = some false := by decide +kernel
theorem kt_bool_int : kitB "bool" "int" = some true := by decide +kernel
theorem kt_bool_bool : kitB "bool" "bool" = some true := by decide +kernel
theorem kt_bool_tuple : kitB "bool" "tuple" = some false := by decide +kernel
theorem kt_bool_str : kitB "bool" "str" = some false := by decide +kernel
theorem kt_bool_list : kitB "bool" "list" = some false := by decide +kernel
theorem kt_int_int : kitB "int" "int" = some true := by decide +kernel
theorem kt_int_bool : kitB "int" "bool" = some false := by decide +kernel
theorem kt_int_tuple : kitB "int" "tuple" = some false := by decide +kernel
theorem kt_int_str : kitB "int" "str" = some false := by decide +kernel
theorem kt_int_list : kitB "int" "list" = some false := by decide +kernel
theorem kt_str_int : kitB "str" "int" = some false := by decide +kernel
theorem kt_str_bool : kitB "str" "bool" = some false := by decide +kernel
theorem kt_str_tuple : kitB "str" "tuple" = some false := by decide +kernel
theorem kt_str_str : kitB "str" "str" = some true := by decide +kernel
theorem kt_str_list : kitB "str" "list" = some false := by decide +kernel
theorem kt_list_int : kitB "list" "int" = some false := by decide +kernel
theorem kt_list_bool : kitB "list" "bool" = some false := by decide +kernel
theorem kt_list_tuple : kitB "list" "tuple" = some false := by decide +kernel
theorem kt_list_str : kitB "list" "str" = some false := by decide +kernel
theorem kt_list_list : kitB "list" "list" = some true := by decide +kernel
theorem kt_tuple_int : kitB "tuple" "int" = some false := by decide +kernel
theorem kt_tuple_bool : kitB "tuple" "bool" = some false := by decide +kernel
theorem kt_tuple_tuple : kitB "tuple" "tuple" = some true := by decide +kernel
theorem kt_tuple_str : kitB "tuple" "str" = some false := by decide +kernel
theorem kt_tuple_list : kitB "tuple" "list" = some false := by decide +kernel
theorem kt_dict_int : kitB "dict" "int" = some false := by decide +kernel
theorem kt_dict_bool : kitB "dict" "bool" = some false := by decide +kernel
theorem kt_dict_tuple : kitB "dict" "tuple" = some false := by decide +kernel
theorem kt_dict_str : kitB "dict" "str" = some false := by decide +kernel
theorem kt_dict_list : kitB "dict" "list" = some false := by decide +kernel
def amongD (d : PyData) (lo hi : Int) : Bool := match d with
  | .int i => decide (lo ≤ i) && decide (i ≤ hi)
  | _ => false
/-! ### floors -/
theorem kt_dict_tuple' (d : List (PyData × PyData)) : kitB (tyOf (.dict d)) "tuple" = some false := by
  cases d with
  | nil => exact kt_dict_tuple
  | cons _ _ => exact kt_list_tuple
/-- no error is held, itself or by a tuple -/
def noX (d : PyData) : Bool := !isX d && (match d with | .tuple ts => ts.all fun x => !isX x | _ => true)
theorem noX_x {d : PyData} (h : noX d = true) : isX d = false := by
  unfold noX at h
  rw [Bool.and_eq_true] at h
  simpa using h.1
theorem noX_tup {t : List PyData} (h : noX (.tuple t) = true) : ∀ d ∈ t, isX d = false := fun d hd => by
  unfold noX at h
  rw [Bool.and_eq_true] at h
  have := List.all_eq_true.mp h.2 d hd
  simpa using this
def isFloorD (d : PyData) : Bool := match d with
  | .tuple t => decide (t.length = 2) && ((t.all fun x => amongD x 1 4) && !PyData.eqv (.tuple t) (.tuple [.int 1, .int 1]))
  | _ => false
theorem eqv_int (i j : Int) : PyData.eqv (.int i) (.int j) = (i == j) := rfl
theorem eq_len (n m : Nat) : (((n : Int)) == ((m : Int))) = decide (n = m) := by
  by_cases h : n = m
  · subst h; simp
  · rw [decide_eq_false h]; exact beq_false_of_ne fun z => h (Int.ofNat_inj.mp z)
theorem eq_len2 (n : Nat) : (((n : Int)) == 2) = decide (n = 2) := eq_len n 2
theorem isFloorD_len {t : List PyData} (h : ¬ t.length = 2) : isFloorD (.tuple t) = false := by
  show (decide (t.length = 2) && _) = false
  rw [decide_eq_false h]; rfl
theorem isFloorD_two {t : List PyData} (h : t.length = 2) : isFloorD (.tuple t) = ((t.all fun x => amongD x 1 4) && !PyData.eqv (.tuple t) (.tuple [.int 1, .int 1])) := by
  show (decide (t.length = 2) && _) = _
  rw [decide_eq_true h]; rfl
theorem two_of {α : Type} {t : List α} (h : t.length = 2) : ∃ a b, t = [a, b] := by
  match t, h with
  | [a, b], _ => exact ⟨a, b, rfl⟩
theorem among_int {d : PyData} {lo hi : Int} (h : amongD d lo hi = true) : ∃ i : Int, d = .int i ∧ lo ≤ i ∧ i ≤ hi := by
  cases d with
  | int i =>
    have h' : (decide (lo ≤ i) && decide (i ≤ hi)) = true := h
    rw [Bool.and_eq_true] at h'
    exact ⟨i, rfl, of_decide_eq_true h'.1, of_decide_eq_true h'.2⟩
  | _ => cases h
theorem amongs2 {a b : PyData} (h : ([a, b].all fun x => amongD x 1 4) = true) : ∃ i j : Int, a = .int i ∧ b = .int j := by
  have h1 := List.all_eq_true.mp h a List.mem_cons_self
  have h2 := List.all_eq_true.mp h b (List.mem_cons_of_mem _ List.mem_cons_self)
  obtain ⟨i, e1, _⟩ := among_int h1
  obtain ⟨j, e2, _⟩ := among_int h2
  exact ⟨i, j, e1, e2⟩
theorem noDs_ints : ∀ ns : List Int, noDs (ns.map PyData.int) = true
  | [] => rfl
  | n :: ns => by show (noD (.int n) && noDs (ns.map PyData.int)) = true; rw [noDs_ints ns]; rfl
theorem okIntsL (ns : List Int) : okD (.list (ns.map PyData.int)) = true := by
  unfold okD
  rw [Bool.and_eq_true]
  exact ⟨noDs_ints ns, okInts ns⟩
theorem okIntsT (ns : List Int) : okD (.tuple (ns.map PyData.int)) = true := by
  have h := okIntsL ns
  unfold okD SeqAt.shaped at h ⊢
  exact h
theorem okTup2 (i j : Int) : okD (.tuple [.int i, .int j]) = true := okIntsT [i, j]
end Sf

set_option Elab.async false
set_option linter.all false
set_option maxRecDepth 100000
/-! Mb: standings as data; the draws. -/
namespace Sf
open PySem L2 Dx
abbrev iT (ns : List Int) : PyData := .tuple (ns.map PyData.int)
abbrev iL (ns : List Int) : PyData := .list (ns.map PyData.int)
def rg (m : Nat) : List Int := (List.range m).map fun (i : Nat) => (i : Int)
theorem rg_len (m : Nat) : (rg m).length = m := by unfold rg; simp
theorem mem_rg {m : Nat} {i : Int} : i ∈ rg m ↔ 0 ≤ i ∧ i < m := by
  unfold rg
  rw [List.mem_map]
  constructor
  · rintro ⟨j, hj, rfl⟩
    have := List.mem_range.mp hj
    omega
  · rintro ⟨h1, h2⟩
    exact ⟨i.toNat, List.mem_range.mpr (by omega), by omega⟩
theorem rg_nodup (m : Nat) : (rg m).Nodup := by
  unfold rg
  exact List.Pairwise.map _ (fun a b (h : a ≠ b) => fun z => h (Int.ofNat_inj.mp z)) List.nodup_range
theorem rg_sorted (m : Nat) : (rg m).Pairwise fun a b => decide (a ≤ b) = true := by
  unfold rg
  exact List.Pairwise.map _ (fun a b (h : a ≤ b) => decide_eq_true (by omega)) List.pairwise_le_range
theorem rgD_rg (m : Nat) : rgD 0 (m : Int) = (rg m).map PyData.int := by
  unfold rgD rg
  rw [List.map_map, Int.sub_zero, Int.toNat_natCast]
  exact List.map_congr_left fun i _ => congrArg PyData.int (Int.zero_add _)
theorem eqv_iL (a b : List Int) : PyData.eqv (iL a) (iL b) = decide (a = b) := by
  show PyData.eqv (.list _) (.list _) = _
  rw [PyData.eqv, PySem.W.ked_eqvAll]
theorem eqv_iT (a b : List Int) : PyData.eqv (iT a) (iT b) = decide (a = b) := by
  show PyData.eqv (.tuple _) (.tuple _) = _
  rw [PyData.eqv, PySem.W.ked_eqvAll]
theorem ints_of {lo hi : Int} : ∀ {t : List PyData}, (t.all fun x => amongD x lo hi) = true → ∃ ns : List Int, t = ns.map PyData.int ∧ ∀ n ∈ ns, lo ≤ n ∧ n ≤ hi
  | [], _ => ⟨[], rfl, fun _ h => nomatch h⟩
  | d :: t, h => by
    rw [List.all_cons, Bool.and_eq_true] at h
    obtain ⟨i, rfl, h1⟩ := among_int h.1
    obtain ⟨ns, rfl, h2⟩ := ints_of h.2
    exact ⟨i :: ns, rfl, fun n hn => by
      rcases List.mem_cons.mp hn with rfl | hn
      · exact h1
      · exact h2 n hn⟩
theorem all_among {lo hi : Int} : ∀ {ns : List Int}, (∀ n ∈ ns, lo ≤ n ∧ n ≤ hi) → ((ns.map PyData.int).all fun x => amongD x lo hi) = true := fun {ns} h => by
  rw [List.all_map]
  refine List.all_eq_true.mpr fun n hn => ?_
  obtain ⟨h1, h2⟩ := h n hn
  show (decide (lo ≤ n) && decide (n ≤ hi)) = true
  rw [decide_eq_true h1, decide_eq_true h2]; rfl
theorem srt_ints (ns : List Int) : Srt (ns.map PyData.int) :=
  ⟨fun d hd => by obtain ⟨i, _, rfl⟩ := List.mem_map.mp hd; exact ⟨rfl, by show PyData.depth (.int i) ≤ 20; rw [PyData.depth]; omega⟩,
    PySem.W.AllAlike.of fun _ _ => by simp [PySem.W.alike], PySem.W.Sortable.others fun _ => ⟨fun z => (nomatch z), fun _ z => (nomatch z)⟩⟩
theorem srtD_ints (ns : List Int) : srtD (ns.map PyData.int) = (ns.mergeSort fun a b => decide (a ≤ b)).map PyData.int := by
  unfold srtD
  symm
  refine List.map_mergeSort fun a _ b _ => ?_
  have := congrFun (congrFun (PySem.W.dataLe_int (β := Int) id) a) b
  exact this.symm
theorem le_tr : ∀ a b c : Int, decide (a ≤ b) = true → decide (b ≤ c) = true → decide (a ≤ c) = true := fun a b c h1 h2 => by
  have := of_decide_eq_true h1
  have := of_decide_eq_true h2
  exact decide_eq_true (by omega)
theorem le_tt : ∀ a b : Int, (decide (a ≤ b) || decide (b ≤ a)) = true := fun a b => by
  by_cases h : a ≤ b
  · rw [decide_eq_true h]; rfl
  · rw [decide_eq_true (show b ≤ a by omega), Bool.or_true]
theorem sort_rg {ns : List Int} {m : Nat} : (ns.mergeSort fun a b => decide (a ≤ b)) = rg m ↔ ns.Perm (rg m) := by
  constructor
  · intro h
    rw [← h]
    exact (List.mergeSort_perm _ _).symm
  · intro h
    have p : (ns.mergeSort fun a b => decide (a ≤ b)).Perm (rg m) := (List.mergeSort_perm _ _).trans h
    have s := List.pairwise_mergeSort (le := fun a b : Int => decide (a ≤ b)) le_tr le_tt ns
    refine List.Perm.eq_of_pairwise (fun a b _ _ h1 h2 => ?_) s (rg_sorted m) p
    have := of_decide_eq_true h1
    have := of_decide_eq_true h2
    omega
/-- is it a standing of m places -/
def stD (m : Int) (d : PyData) : Bool := match d with
  | .tuple t => decide ((t.length : Int) = m) && ((t.all fun x => amongD x 0 (m - 1)) && PyData.eqv (.list (srtD t)) (.list (rgD 0 m)))
  | _ => false
theorem stD_iff {m : Nat} {d : PyData} : stD m d = true ↔ ∃ ns, d = iT ns ∧ ns.Perm (rg m) := by
  constructor
  · intro h
    cases d with
    | tuple t =>
      have h' : (decide ((t.length : Int) = m) && ((t.all fun x => amongD x 0 (m - 1)) && PyData.eqv (.list (srtD t)) (.list (rgD 0 m)))) = true := h
      rw [Bool.and_eq_true, Bool.and_eq_true] at h'
      obtain ⟨_, h2, h3⟩ := h'
      obtain ⟨ns, rfl, _⟩ := ints_of h2
      rw [srtD_ints, rgD_rg] at h3
      have := eqv_iL (ns.mergeSort fun a b => decide (a ≤ b)) (rg m)
      rw [h3] at this
      exact ⟨ns, rfl, sort_rg.mp (of_decide_eq_true this.symm)⟩
    | _ => cases h
  · rintro ⟨ns, rfl, h⟩
    show (decide (((ns.map PyData.int).length : Int) = m) && (((ns.map PyData.int).all fun x => amongD x 0 (m - 1)) && PyData.eqv (.list (srtD (ns.map PyData.int))) (.list (rgD 0 m)))) = true
    have hl : ns.length = m := by rw [h.length_eq, rg_len]
    rw [Bool.and_eq_true, Bool.and_eq_true]
    refine ⟨decide_eq_true (by rw [List.length_map, hl]), all_among fun n hn => ?_, ?_⟩
    · have := mem_rg.mp (h.mem_iff.mp hn)
      omega
    · rw [srtD_ints, rgD_rg]
      exact (eqv_iL _ _).trans (decide_eq_true (sort_rg.mpr h))
theorem noX_iT (ns : List Int) : noX (iT ns) = true := by
  show (!isX (iT ns) && (ns.map PyData.int).all fun x => !isX x) = true
  rw [List.all_map]
  rw [Bool.and_eq_true]
  exact ⟨rfl, List.all_eq_true.mpr fun _ _ => rfl⟩
/-- the floor of w by h -/
abbrev fl (w h : Nat) : PyData := .tuple [.int w, .int h]
structure Fl (w h : Nat) : Prop where
  w1 : 1 ≤ w
  w4 : w ≤ 4
  h1 : 1 ≤ h
  h4 : h ≤ 4
  n1 : w * h ≠ 1
theorem Fl.m2 {w h : Nat} (f : Fl w h) : 2 ≤ w * h := by
  have := Nat.mul_le_mul f.w1 f.h1
  have := f.n1
  omega
theorem Fl.m16 {w h : Nat} (f : Fl w h) : w * h ≤ 16 := Nat.mul_le_mul f.w4 f.h4
theorem Fl.cm {w h : Nat} (f : Fl w h) (y : Int) : CMul (w : Int) y := Or.inl ⟨by omega, by have := f.w4; omega⟩
theorem fl_ok {w h : Nat} (f : Fl w h) : isFloorD (fl w h) = true := by
  obtain ⟨a, b, c, d, e⟩ := f
  have : ∀ w, w < 5 → ∀ h, h < 5 → 1 ≤ w → 1 ≤ h → w * h ≠ 1 → isFloorD (.tuple [.int (w : Nat), .int (h : Nat)]) = true := by decide +kernel
  exact this w (by omega) h (by omega) a c e
theorem noX_fl (w h : Nat) : noX (fl w h) = true := rfl
/-! ### the law's own draws -/
def cellI (ns : List Int) (k : Int) : Int := if ns = [] then 0 else 31 * ns.sum + ns.getD (k % ns.length).toNat 0
def numI (ns : List Int) (k : Int) : Int := cellI ns k % 1000000007 + 7919 * k + 13
def drawI (ns : List Int) (k : Int) : Int := numI ns k * numI ns k % 1000000007 * numI ns k % 998244353 / 11
theorem num_bd (ns : List Int) {k : Int} (h : 0 ≤ k) (h2 : k ≤ 1000000) : 13 ≤ numI ns k ∧ numI ns k < 10000000000 := by
  unfold numI
  have := Int.emod_nonneg (cellI ns k) (show (1000000007 : Int) ≠ 0 by decide)
  have := Int.emod_lt_of_pos (cellI ns k) (show (0 : Int) < 1000000007 by decide)
  omega
theorem draw_bd (ns : List Int) (k : Int) : 0 ≤ drawI ns k ∧ drawI ns k < 100000000 := by
  unfold drawI
  have := Int.emod_nonneg (numI ns k * numI ns k % 1000000007 * numI ns k) (show (998244353 : Int) ≠ 0 by decide)
  have := Int.emod_lt_of_pos (numI ns k * numI ns k % 1000000007 * numI ns k) (show (0 : Int) < 998244353 by decide)
  omega
def draw (ns : List Int) (k : Nat) : Nat := (drawI ns k).toNat
theorem draw_eq (ns : List Int) (k : Nat) : drawI ns k = (draw ns k : Nat) := by
  have := (draw_bd ns k).1
  unfold draw
  omega
theorem draw_lt (ns : List Int) (k : Nat) : draw ns k < 100000000 := by
  have := (draw_bd ns k).2
  unfold draw
  omega
/-- the floor drawn from a number -/
def flW (n : Nat) : Nat := if (1 + n % 4) * (1 + n / 4 % 4) = 1 then 2 + n / 16 % 3 else 1 + n % 4
def flH (n : Nat) : Nat := 1 + n / 4 % 4
theorem fl_drawn (n : Nat) : Fl (flW n) (flH n) := by
  unfold flW flH
  have h1 : n % 4 < 4 := Nat.mod_lt _ (by decide)
  have h2 : n / 4 % 4 < 4 := Nat.mod_lt _ (by decide)
  have h3 : n / 16 % 3 < 3 := Nat.mod_lt _ (by decide)
  generalize n % 4 = a at *
  generalize n / 4 % 4 = b at *
  generalize n / 16 % 3 = c at *
  have : ∀ a, a < 4 → ∀ b, b < 4 → ∀ c, c < 3 → (1 ≤ (if (1 + a) * (1 + b) = 1 then 2 + c else 1 + a) ∧ (if (1 + a) * (1 + b) = 1 then 2 + c else 1 + a) ≤ 4) ∧ (1 ≤ 1 + b ∧ 1 + b ≤ 4) ∧ (if (1 + a) * (1 + b) = 1 then 2 + c else 1 + a) * (1 + b) ≠ 1 := by decide +kernel
  obtain ⟨⟨q1, q2⟩, ⟨q3, q4⟩, q5⟩ := this a h1 b h2 c h3
  exact ⟨q1, q2, q3, q4, q5⟩
/-- the standing drawn -/
def rowsI (ns : List Int) (k m : Nat) : List (Int × Int) := (List.range m).map fun (j : Nat) => (drawI ns ((k : Int) + (j : Int)), (j : Int))
def pairD (p : Int × Int) : PyData := .tuple [.int p.1, .int p.2]
def stI (ns : List Int) (k m : Nat) : List Int := ((rowsI ns k m).mergeSort fun p q => decide (p.1 < q.1 ∨ (p.1 = q.1 ∧ p.2 ≤ q.2))).map Prod.snd
theorem rowsI_snd (ns : List Int) (k m : Nat) : (rowsI ns k m).map Prod.snd = rg m := by
  unfold rowsI rg
  rw [List.map_map]; rfl
theorem stI_perm (ns : List Int) (k m : Nat) : (stI ns k m).Perm (rg m) := by
  have := (List.mergeSort_perm (rowsI ns k m) fun p q => decide (p.1 < q.1 ∨ (p.1 = q.1 ∧ p.2 ≤ q.2))).map Prod.snd
  rw [rowsI_snd] at this
  exact this
theorem srt_pairs (ps : List (Int × Int)) : Srt (ps.map pairD) :=
  ⟨fun d hd => by obtain ⟨p, _, rfl⟩ := List.mem_map.mp hd; exact ⟨rfl, by show PyData.depth (.tuple [.int _, .int _]) ≤ 20; simp [PyData.depth, PyData.depthAll]⟩,
    PySem.W.AllAlike.of fun _ _ => by simp [PySem.W.alike, PySem.W.alikeAll, pairD], PySem.W.Sortable.tuples fun p => ⟨_, _, rfl⟩⟩
theorem srtD_pairs (ps : List (Int × Int)) : srtD (ps.map pairD) = (ps.mergeSort fun p q => decide (p.1 < q.1 ∨ (p.1 = q.1 ∧ p.2 ≤ q.2))).map pairD := by
  unfold srtD
  symm
  refine List.map_mergeSort fun a _ b _ => ?_
  have := congrFun (congrFun (PySem.W.dataLe_ii (β := Int × Int) Prod.fst Prod.snd) a) b
  exact this.symm
/-! ### types by name -/
def isTup : PyData → Bool
  | .tuple _ => true
  | _ => false
def isIn : PyData → Bool
  | .int _ => true
  | .bool _ => true
  | _ => false
def isBo : PyData → Bool
  | .bool _ => true
  | _ => false
theorem kt_tup : ∀ d : PyData, kitB (tyOf d) "tuple" = some (isTup d)
  | .none => kt_NoneType_tuple
  | .bool _ => kt_bool_tuple
  | .int _ => kt_int_tuple
  | .str _ => kt_str_tuple
  | .list _ => kt_list_tuple
  | .tuple _ => kt_tuple_tuple
  | .dict [] => kt_dict_tuple
  | .dict (_ :: _) => kt_list_tuple
theorem isTup_no {d : PyData} (h : isTup d = false) (m : Int) : stD m d = false := by
  cases d with
  | tuple t => cases h
  | _ => rfl
theorem isTup_yes {d : PyData} (h : isTup d = true) : ∃ t, d = .tuple t := by
  cases d with
  | tuple t => exact ⟨t, rfl⟩
  | _ => cases h
theorem stD_tup (m : Int) (t : List PyData) : stD m (.tuple t) = (decide ((t.length : Int) = m) && ((t.all fun x => amongD x 0 (m - 1)) && PyData.eqv (.list (srtD t)) (.list (rgD 0 m)))) := rfl
/-- what a floor is -/
theorem floor_of {d : PyData} (h : isFloorD d = true) : ∃ w h : Nat, Fl w h ∧ d = fl w h := by
  cases d with
  | tuple t =>
    by_cases h2 : t.length = 2
    · obtain ⟨a, b, rfl⟩ := two_of h2
      rw [isFloorD_two rfl, Bool.and_eq_true] at h
      obtain ⟨i, ei, i1, i2⟩ := among_int (List.all_eq_true.mp h.1 a List.mem_cons_self)
      obtain ⟨j, ej, j1, j2⟩ := among_int (List.all_eq_true.mp h.1 b (List.mem_cons_of_mem _ List.mem_cons_self))
      subst ei ej
      refine ⟨i.toNat, j.toNat, ⟨by omega, by omega, by omega, by omega, fun z => ?_⟩, ?_⟩
      · have e1 : i.toNat = 1 := Nat.eq_one_of_mul_eq_one_right z
        have e2 : j.toNat = 1 := Nat.eq_one_of_mul_eq_one_left z
        have : i = 1 := by omega
        have : j = 1 := by omega
        subst i j
        exact absurd h.2 (by decide)
      · show PyData.tuple [.int i, .int j] = .tuple [.int (i.toNat : Int), .int (j.toNat : Int)]
        rw [Int.toNat_of_nonneg (by omega), Int.toNat_of_nonneg (by omega)]
    · rw [isFloorD_len h2] at h; cases h
  | _ => cases h
/-- how many places -/
def areaN : PyData → Nat
  | .tuple [.int a, .int b] => a.toNat * b.toNat
  | _ => 0
theorem areaN_fl (w h : Nat) : areaN (fl w h) = w * h := rfl
def ordI (m : Nat) : List Int := (List.range (m - 1)).map (fun (i : Nat) => 1 + (i : Int)) ++ [0]
theorem ordI_D {m : Nat} (h : 1 ≤ m) : rgD 1 (m : Int) ++ [PyData.int 0] = (ordI m).map PyData.int := by
  unfold rgD ordI
  rw [List.map_append, List.map_map]
  have : ((m : Int) - 1).toNat = m - 1 := by omega
  rw [this]; rfl
theorem ordI_len {m : Nat} (h : 1 ≤ m) : (ordI m).length = m := by unfold ordI; simp; omega
/-! ### bad floors, bad standings -/
def oddF : List PyData := [.int 0, .int 5, .int (-1), .bool true, .none, .str "2", .list [.int 2], .int (10 ^ 30)]
def someF (o : PyData) : List PyData := [.tuple [o, .int 2], .tuple [.int 2, o], .tuple [o, o], .tuple [.int 1, .int 1], .tuple [.int 2], .tuple [.int 2, .int 2, .int 2], .list [.int 2, .int 2], .none, .int 4, .str "22", .dict [], .tuple []]
def badF (n : Nat) : PyData := (someF (oddF.getD (n / 16 % 8) .none)).getD (n % 12) .none
theorem badF_bad (n : Nat) : isFloorD (badF n) = false ∧ noX (badF n) = true := by
  have : ∀ a, a < 8 → ∀ b, b < 12 → isFloorD ((someF (oddF.getD a .none)).getD b .none) = false ∧ noX ((someF (oddF.getD a .none)).getD b .none) = true := by decide +kernel
  exact this _ (Nat.mod_lt _ (by decide)) _ (Nat.mod_lt _ (by decide))
def oddS (m at' : Nat) (ns : List Int) : List PyData := [.int (-1), .int m, .bool true, .none, .str "0", .list [.int 0], .int (10 ^ 30), .int (ns.getD (if at' = 0 then m - 1 else at' - 1) 0)]
def bentS (ns : List Int) (at' : Nat) (o : PyData) : List PyData := (ns.take at').map PyData.int ++ [o] ++ (ns.drop (at' + 1)).map PyData.int
def someS (ns : List Int) (m : Nat) (b : List PyData) : List PyData := [.tuple b, .tuple b, iL ns, iT (ns.drop 1), .tuple (ns.map PyData.int ++ [.int m]), .none, .tuple [], .int 7, .str "1-", .dict []]
def badS (ns : List Int) (n : Nat) : PyData := (someS ns ns.length (bentS ns (n / 16 % ns.length) ((oddS ns.length (n / 16 % ns.length) ns).getD (n / 512 % 8) .none))).getD (n % 10) .none
theorem stD_mem {m : Nat} {t : List PyData} {d : PyData} (h : stD m (.tuple t) = true) (hd : d ∈ t) : amongD d 0 (m - 1) = true := by
  rw [stD_tup, Bool.and_eq_true, Bool.and_eq_true] at h
  exact List.all_eq_true.mp h.2.1 d hd
theorem stD_len {m : Nat} {t : List PyData} (h : stD m (.tuple t) = true) : t.length = m := by
  rw [stD_tup, Bool.and_eq_true] at h
  exact Int.ofNat_inj.mp (of_decide_eq_true h.1)
theorem map_int_inj {a b : List Int} (h : a.map PyData.int = b.map PyData.int) : a = b := List.map_inj_right (fun _ _ z => PyData.int.inj z) |>.mp h
theorem stD_ints {m : Nat} {ns : List Int} (h : stD m (iT ns) = true) : ns.Perm (rg m) := by
  obtain ⟨ns', e, p⟩ := stD_iff.mp h
  have := map_int_inj (PyData.tuple.inj e)
  exact this ▸ p
theorem bent_bad {m : Nat} {ns : List Int} (hp : ns.Perm (rg m)) (h2 : 2 ≤ m) (h16 : m ≤ 16) {a : Nat} (ha : a < m) {o : PyData} (ho : o ∈ oddS m a ns) : stD m (.tuple (bentS ns a o)) = false := by
  cases hs : stD m (.tuple (bentS ns a o)) with
  | false => rfl
  | true =>
    have hm : o ∈ bentS ns a o := List.mem_append_left _ (List.mem_append_right _ List.mem_cons_self)
    have hin := stD_mem hs hm
    have hl : ns.length = m := by rw [hp.length_eq, rg_len]
    obtain ⟨i, rfl, i1, i2⟩ := among_int hin
    have hi : i = ns.getD (if a = 0 then m - 1 else a - 1) 0 := by
      unfold oddS at ho
      simp only [List.mem_cons, List.not_mem_nil, or_false, PyData.int.injEq, reduceCtorEq, false_or] at ho
      rcases ho with z | z | z | z
      · omega
      · omega
      · omega
      · exact z
    have hb : (ns.take a ++ [i] ++ ns.drop (a + 1)).Perm (rg m) := by
      refine stD_ints ?_
      have : (ns.take a ++ [i] ++ ns.drop (a + 1)).map PyData.int = bentS ns a (.int i) := by unfold bentS; simp
      show stD m (.tuple _) = true
      rw [this]; exact hs
    have nd := (hb.nodup_iff).mpr (rg_nodup m)
    exfalso
    have hj : (if a = 0 then m - 1 else a - 1) < ns.length := by split <;> omega
    rw [List.getD_eq_getElem?_getD, List.getElem?_eq_getElem hj] at hi
    have hi' : i = ns[if a = 0 then m - 1 else a - 1] := hi
    by_cases h0 : a = 0
    · subst h0
      have : i ∈ ns.drop (0 + 1) := by
        have hj' : m - 1 < ns.length := by omega
        have hi2 : i = ns[m - 1] := by simpa using hi'
        rw [hi2]
        refine List.mem_iff_getElem.mpr ⟨m - 2, by rw [List.length_drop]; omega, ?_⟩
        rw [List.getElem_drop]
        congr 1
        omega
      simp only [List.take_zero, List.nil_append, List.cons_append, List.nodup_cons] at nd
      exact nd.1 this
    · have : i ∈ ns.take a := by
        have hi2 : i = ns[a - 1] := by
          rw [hi']
          congr 1
          rw [if_neg h0]
        rw [hi2]
        exact List.mem_iff_getElem.mpr ⟨a - 1, by rw [List.length_take]; omega, by rw [List.getElem_take]⟩
      rw [List.nodup_append, List.nodup_append] at nd
      exact nd.1.2.2 i this i List.mem_cons_self rfl
theorem mem_getD {α : Type} {l : List α} {n : Nat} {d : α} (h : n < l.length) : l.getD n d ∈ l := by
  rw [List.getD_eq_getElem?_getD, List.getElem?_eq_getElem h]
  exact List.getElem_mem h
theorem badS_bad {m : Nat} {ns : List Int} (hp : ns.Perm (rg m)) (h2 : 2 ≤ m) (h16 : m ≤ 16) (n : Nat) : stD m (badS ns n) = false ∧ noX (badS ns n) = true := by
  have hl : ns.length = m := by rw [hp.length_eq, rg_len]
  unfold badS
  rw [hl]
  have ha : n / 16 % m < m := Nat.mod_lt _ (by omega)
  generalize n / 16 % m = a at ha
  have ho : (oddS m a ns).getD (n / 512 % 8) .none ∈ oddS m a ns := mem_getD (by show n / 512 % 8 < 8; exact Nat.mod_lt _ (by decide))
  generalize (oddS m a ns).getD (n / 512 % 8) .none = o at ho
  have hb := bent_bad hp h2 h16 ha ho
  have hx : isX o = false := by
    unfold oddS at ho
    simp only [List.mem_cons, List.not_mem_nil, or_false] at ho
    rcases ho with rfl | rfl | rfl | rfl | rfl | rfl | rfl | rfl <;> rfl
  have hbx : noX (.tuple (bentS ns a o)) = true := by
    show (!isX (.tuple (bentS ns a o)) && (bentS ns a o).all fun x => !isX x) = true
    unfold bentS
    rw [List.all_append, List.all_append, List.all_map, List.all_map]
    have e1 : (ns.take a).all ((fun x => !isX x) ∘ PyData.int) = true := List.all_eq_true.mpr fun _ _ => rfl
    have e2 : (ns.drop (a + 1)).all ((fun x => !isX x) ∘ PyData.int) = true := List.all_eq_true.mpr fun _ _ => rfl
    rw [e1, e2, List.all_cons, hx]; rfl
  have hm : (someS ns m (bentS ns a o)).getD (n % 10) .none ∈ someS ns m (bentS ns a o) := mem_getD (by show n % 10 < 10; exact Nat.mod_lt _ (by decide))
  generalize (someS ns m (bentS ns a o)).getD (n % 10) .none = d at hm
  unfold someS at hm
  simp only [List.mem_cons, List.not_mem_nil, or_false] at hm
  rcases hm with rfl | rfl | rfl | rfl | rfl | rfl | rfl | rfl | rfl | rfl
  · exact ⟨hb, hbx⟩
  · exact ⟨hb, hbx⟩
  · exact ⟨rfl, rfl⟩
  · refine ⟨?_, noX_iT _⟩
    cases hs : stD m (iT (ns.drop 1)) with
    | false => rfl
    | true =>
      have := stD_len hs
      rw [List.length_map, List.length_drop] at this
      omega
  · refine ⟨?_, ?_⟩
    · cases hs : stD m (.tuple (ns.map PyData.int ++ [.int m])) with
      | false => rfl
      | true =>
        have := stD_len hs
        rw [List.length_append, List.length_map] at this
        simp at this
        omega
    · show (!isX (.tuple _) && (ns.map PyData.int ++ [PyData.int m]).all fun x => !isX x) = true
      rw [List.all_append, List.all_map]
      have e1 : ns.all ((fun x => !isX x) ∘ PyData.int) = true := List.all_eq_true.mpr fun _ _ => rfl
      rw [e1]; rfl
  · exact ⟨rfl, rfl⟩
  · refine ⟨?_, rfl⟩
    cases hs : stD m (.tuple []) with
    | false => rfl
    | true =>
      have := stD_len hs
      simp at this
      omega
  · exact ⟨rfl, rfl⟩
  · exact ⟨rfl, rfl⟩
  · exact ⟨rfl, rfl⟩
end Sf

set_option Elab.async false
set_option linter.all false
set_option maxRecDepth 100000
/-! Mc: moves. -/
namespace Sf
open PySem L2 Dx
inductive Dr where
  | up | down | left | right
  deriving DecidableEq
def Dr.s : Dr → Str
  | .up => "up"
  | .down => "down"
  | .left => "left"
  | .right => "right"
def Dr.x : Dr → Int
  | .up => 0
  | .down => 0
  | .left => 1
  | .right => -1
def Dr.y : Dr → Int
  | .up => 1
  | .down => -1
  | .left => 0
  | .right => 0
def drs : List Dr := [.up, .down, .left, .right]
theorem mem_drs (d : Dr) : d ∈ drs := by
  unfold drs
  cases d <;> simp
theorem Dr.s_inj (a b : Dr) (h : a.s = b.s) : a = b := by
  cases a <;> cases b <;> first | rfl | (exfalso; revert h; decide +kernel)
/-- a fact of all floors, places, words, looked at one by one -/
theorem by_all {P : Nat → Nat → Nat → Dr → Bool} (k : ((List.range 5).all fun w => (List.range 5).all fun h => (List.range (w * h)).all fun e => drs.all fun d => P w h e d) = true) {w h e : Nat} (hw : w < 5) (hh : h < 5) (he : e < w * h) (d : Dr) : P w h e d = true :=
  List.all_eq_true.mp (List.all_eq_true.mp (List.all_eq_true.mp (List.all_eq_true.mp k w (List.mem_range.mpr hw)) h (List.mem_range.mpr hh)) e (List.mem_range.mpr he)) d (mem_drs d)
def pbX (w e : Nat) (d : Dr) : Int := (e : Int) % (w : Int) + d.x
def pbY (w e : Nat) (d : Dr) : Int := (e : Int) / (w : Int) + d.y
def pbOk (w h e : Nat) (d : Dr) : Bool := (decide (0 ≤ pbX w e d) && decide (pbX w e d < w)) && (decide (0 ≤ pbY w e d) && decide (pbY w e d < h))
/-- the place beside e -/
def pb (w h e : Nat) (d : Dr) : Option Nat := if pbOk w h e d = true then some (pbY w e d * w + pbX w e d).toNat else none
theorem pb_fin : ∀ w, w < 5 → ∀ h, h < 5 → ∀ e, e < 16 → e < w * h → ∀ d : Dr, (∀ p, pb w h e d = some p → p < w * h ∧ p ≠ e ∧ pbY w e d * w + pbX w e d = (p : Int)) := by
  intro w hw h hh e he hm d p hp
  unfold pb at hp
  by_cases hk : pbOk w h e d = true
  · rw [if_pos hk] at hp
    cases hp
    have key := by_all (P := fun w h e d => !pbOk w h e d || (decide ((pbY w e d * w + pbX w e d).toNat < w * h) && (decide ((pbY w e d * w + pbX w e d).toNat ≠ e) && decide (0 ≤ pbY w e d * w + pbX w e d)))) (by decide +kernel) hw hh hm d
    rw [hk] at key
    simp only [Bool.not_true, Bool.false_or, Bool.and_eq_true, decide_eq_true_eq] at key
    obtain ⟨k1, k2, k3⟩ := key
    exact ⟨k1, k2, by omega⟩
  · rw [if_neg hk] at hp; cases hp
theorem Fl.pb {w h e : Nat} (f : Fl w h) (he : e < w * h) {d : Dr} {p : Nat} (hp : pb w h e d = some p) : p < w * h ∧ p ≠ e ∧ pbY w e d * w + pbX w e d = (p : Int) :=
  pb_fin w (by have := f.w4; omega) h (by have := f.h4; omega) e (by have := f.m16; omega) he d p hp
theorem pb_some {w h e : Nat} {d : Dr} : (pb w h e d).isSome = pbOk w h e d := by
  unfold pb
  by_cases hk : pbOk w h e d = true
  · rw [if_pos hk, hk]; rfl
  · rw [if_neg hk]
    have : pbOk w h e d = false := by simpa using hk
    rw [this]; rfl
def wdsAt (w h e : Nat) : List Dr := drs.filter fun d => (pb w h e d).isSome
theorem Fl.wds {w h e : Nat} (f : Fl w h) (he : e < w * h) : wdsAt w h e ≠ [] := by
  have key := by_all (P := fun w h e _ => decide (w * h = 1) || !(wdsAt w h e).isEmpty) (by decide +kernel) (show w < 5 by have := f.w4; omega) (show h < 5 by have := f.h4; omega) he .up
  rw [decide_eq_false f.n1, Bool.false_or] at key
  intro z
  rw [z] at key
  cases key
theorem mem_wds {w h e : Nat} {d : Dr} : d ∈ wdsAt w h e ↔ (pb w h e d).isSome = true := by
  unfold wdsAt
  rw [List.mem_filter]
  exact ⟨fun z => z.2, fun z => ⟨mem_drs d, z⟩⟩
def optD : Option Nat → PyData
  | none => .none
  | some p => .int p
/-- the standing after the slide -/
def slI (ns : List Int) (e p : Nat) : List Int := (ns.set e (ns.getD p 0)).set p 0
theorem getD_eq {ns : List Int} {p : Nat} (h : p < ns.length) : ns.getD p 0 = ns[p] := by rw [List.getD_eq_getElem?_getD, List.getElem?_eq_getElem h]; rfl
theorem slI_len (ns : List Int) (e p : Nat) : (slI ns e p).length = ns.length := by unfold slI; simp
theorem slI_perm {ns : List Int} {e p : Nat} (he : e < ns.length) (hp : p < ns.length) (h0 : ns[e] = 0) : (slI ns e p).Perm ns := by
  have := List.set_set_perm (as := ns) he hp
  rw [h0] at this
  unfold slI
  rw [getD_eq hp]
  exact this
theorem zero_mem {ns : List Int} {m : Nat} (h : ns.Perm (rg m)) (hm : 0 < m) : (0 : Int) ∈ ns := h.mem_iff.mpr (mem_rg.mpr ⟨by omega, by omega⟩)
theorem idx_lt {ns : List Int} {m : Nat} (h : ns.Perm (rg m)) (hm : 0 < m) : ns.idxOf 0 < m := by
  have := List.idxOf_lt_length_of_mem (zero_mem h hm)
  rw [h.length_eq, rg_len] at this
  exact this
theorem at_idx {ns : List Int} (h : ns.idxOf 0 < ns.length) : ns[ns.idxOf 0] = 0 := List.getElem_idxOf h
/-- tile for the empty place, all else as it was -/
theorem map_tile : ∀ {ns : List Int} {e : Nat} {t : Int} (he : e < ns.length), ns.Nodup → ns[e] = 0 → ns.map (fun x => if x = 0 then t else x) = ns.set e t
  | [], e, t, he, _, _ => absurd he (Nat.not_lt_zero _)
  | n :: ns, 0, t, he, nd, h0 => by
    have h0' : n = 0 := h0
    subst h0'
    rw [List.map_cons, if_pos rfl, List.set_cons_zero]
    congr 1
    have hn := (List.nodup_cons.mp nd).1
    refine (List.map_congr_left fun x hx => ?_).trans (List.map_id _)
    have : x ≠ 0 := fun z => hn (z ▸ hx)
    exact if_neg this
  | n :: ns, e + 1, t, he, nd, h0 => by
    have hn := List.nodup_cons.mp nd
    have he' : e < ns.length := by simpa using he
    have h0' : ns[e] = 0 := h0
    have hne : n ≠ 0 := fun z => hn.1 (by rw [z, ← h0']; exact List.getElem_mem he')
    rw [List.map_cons, if_neg hne, List.set_cons_succ, map_tile he' hn.2 h0']
theorem perm_nodup {ns : List Int} {m : Nat} (h : ns.Perm (rg m)) : ns.Nodup := (h.nodup_iff).mpr (rg_nodup m)
/-! ### moves as data -/
def drOf (z : Str) : Option Dr := drs.find? fun d => decide (d.s = z)
theorem drOf_s (d : Dr) : drOf d.s = some d := by
  cases d <;> decide +kernel
theorem drOf_some {z : Str} {d : Dr} (h : drOf z = some d) : d.s = z := of_decide_eq_true (List.find?_some (p := fun d : Dr => decide (d.s = z)) h)
theorem drOf_none {z : Str} (h : drOf z = none) : z ∉ drs.map Dr.s := fun hz => by
  obtain ⟨d, _, rfl⟩ := List.mem_map.mp hz
  rw [drOf_s] at h; cases h
/-- one step of a move told as data -/
def mv1 (w h : Nat) (ns : List Int) (d : PyData) : Option (List Int) := match d with
  | .str z => (drOf z).bind fun r => (pb w h (ns.idxOf 0) r).map (slI ns (ns.idxOf 0))
  | _ => none
def mvs (w h : Nat) : List Int → List PyData → Option (List Int)
  | ns, [] => some ns
  | ns, d :: ds => (mv1 w h ns d).bind fun ns' => mvs w h ns' ds
theorem mv1_perm {w h : Nat} (f : Fl w h) {ns ns' : List Int} {d : PyData} (hp : ns.Perm (rg (w * h))) (e : mv1 w h ns d = some ns') : ns'.Perm (rg (w * h)) := by
  cases d with
  | str z =>
    have e' : ((drOf z).bind fun r => (pb w h (ns.idxOf 0) r).map (slI ns (ns.idxOf 0))) = some ns' := e
    cases hz : drOf z with
    | none => rw [hz] at e'; cases e'
    | some r =>
      rw [hz] at e'
      have e2 : (pb w h (ns.idxOf 0) r).map (slI ns (ns.idxOf 0)) = some ns' := e'
      cases hb : pb w h (ns.idxOf 0) r with
      | none => rw [hb] at e2; cases e2
      | some p =>
        rw [hb] at e2
        have e3 : slI ns (ns.idxOf 0) p = ns' := Option.some.inj e2
        subst e3
        have hm := f.m2
        have hi := idx_lt hp (by omega)
        have hl : ns.length = w * h := by rw [hp.length_eq, rg_len]
        have hq := (f.pb hi hb).1
        exact (slI_perm (by omega) (by omega) (at_idx (by omega))).trans hp
  | _ => cases e
theorem mvs_app (w h : Nat) : ∀ (ds es : List PyData) (ns : List Int), mvs w h ns (ds ++ es) = (mvs w h ns ds).bind fun ns' => mvs w h ns' es
  | [], es, ns => rfl
  | d :: ds, es, ns => by
    show (mv1 w h ns d).bind _ = ((mv1 w h ns d).bind _).bind _
    cases mv1 w h ns d with
    | none => rfl
    | some ns' => exact mvs_app w h ds es ns'
theorem mvs_one {w h : Nat} {ns ns' : List Int} {d : PyData} (e : mv1 w h ns d = some ns') : mvs w h ns [d] = some ns' := by
  show (mv1 w h ns d).bind _ = _
  rw [e]; rfl
theorem mv1_s {w h : Nat} {ns : List Int} {d : Dr} {p : Nat} (hb : pb w h (ns.idxOf 0) d = some p) : mv1 w h ns (.str d.s) = some (slI ns (ns.idxOf 0) p) := by
  show ((drOf d.s).bind fun r => (pb w h (ns.idxOf 0) r).map (slI ns (ns.idxOf 0))) = _
  rw [drOf_s]
  show (pb w h (ns.idxOf 0) d).map _ = _
  rw [hb]; rfl
/-- is it a move here -/
def isMv (w h : Nat) (ns : List Int) (d : PyData) : Bool := (mv1 w h ns d).isSome
theorem isMv_str (w h : Nat) (ns : List Int) (z : Str) : (decide (z ∈ drs.map Dr.s) && decide (z ∈ (wdsAt w h (ns.idxOf 0)).map Dr.s)) = isMv w h ns (.str z) := by
  show _ = (mv1 w h ns (.str z)).isSome
  cases hz : drOf z with
  | none =>
    have e : mv1 w h ns (.str z) = none := by
      show ((drOf z).bind _) = none
      rw [hz]; rfl
    rw [e, decide_eq_false (drOf_none hz)]; rfl
  | some r =>
    have es := drOf_some hz
    subst es
    have e : mv1 w h ns (.str r.s) = (pb w h (ns.idxOf 0) r).map (slI ns (ns.idxOf 0)) := by
      show ((drOf r.s).bind _) = _
      rw [hz]; rfl
    rw [e, Option.isSome_map, decide_eq_true (List.mem_map_of_mem (mem_drs r)), Bool.true_and]
    cases hb : (pb w h (ns.idxOf 0) r).isSome with
    | true => exact decide_eq_true (List.mem_map_of_mem (mem_wds.mpr hb))
    | false =>
      refine decide_eq_false fun hm => ?_
      obtain ⟨d, hd, e2⟩ := List.mem_map.mp hm
      have := Dr.s_inj _ _ e2
      subst this
      rw [mem_wds.mp hd] at hb
      cases hb
/-- the floor's and the standing's numbers, of data -/
def fwN : PyData → Nat
  | .tuple [.int a, _] => a.toNat
  | _ => 0
def fhN : PyData → Nat
  | .tuple [_, .int b] => b.toNat
  | _ => 0
def intOf : PyData → Int
  | .int i => i
  | _ => 0
def intsOf : PyData → List Int
  | .tuple t => t.map intOf
  | _ => []
theorem intsOf_iT (ns : List Int) : intsOf (iT ns) = ns := by
  show (ns.map PyData.int).map intOf = ns
  rw [List.map_map]
  exact List.map_id _
def mvD (x y z : PyData) : Option (List Int) := match z with
  | .list ws => mvs (fwN x) (fhN x) (intsOf y) ws
  | _ => none
/-- no error is held, nor is it the script -/
def noS : PyData → Bool
  | .dict (_ :: _) => false
  | .list ws => ws.all fun x => !isX x
  | _ => true
theorem noS_x {d : PyData} (h : noS d = true) : isX d = false := by
  cases d with
  | dict l =>
    cases l with
    | nil => rfl
    | cons _ _ => cases h
  | _ => rfl
def isLs : PyData → Bool
  | .list _ => true
  | _ => false
theorem kt_lst : ∀ d : PyData, noS d = true → kitB (tyOf d) "list" = some (isLs d)
  | .none, _ => kt_NoneType_list
  | .bool _, _ => kt_bool_list
  | .int _, _ => kt_int_list
  | .str _, _ => kt_str_list
  | .list _, _ => kt_list_list
  | .tuple _, _ => kt_tuple_list
  | .dict [], _ => kt_dict_list
  | .dict (_ :: _), h => nomatch h
def isSt : PyData → Bool
  | .str _ => true
  | _ => false
theorem kt_str : ∀ d : PyData, kitB (tyOf d) "str" = some (isSt d)
  | .none => kt_NoneType_str
  | .bool _ => kt_bool_str
  | .int _ => kt_int_str
  | .str _ => kt_str_str
  | .list _ => kt_list_str
  | .tuple _ => kt_tuple_str
  | .dict [] => kt_dict_str
  | .dict (_ :: _) => kt_list_str
abbrev fromD : List (Str × PyData) := [("up", .tuple [.int 0, .int 1]), ("down", .tuple [.int 0, .int (-1)]), ("left", .tuple [.int 1, .int 0]), ("right", .tuple [.int (-1), .int 0])]
theorem from_mem (d : Dr) : (d.s, PyData.tuple [.int d.x, .int d.y]) ∈ fromD := by
  cases d
  · exact List.mem_cons_self
  · exact List.mem_cons_of_mem _ List.mem_cons_self
  · exact List.mem_cons_of_mem _ (List.mem_cons_of_mem _ List.mem_cons_self)
  · exact List.mem_cons_of_mem _ (List.mem_cons_of_mem _ (List.mem_cons_of_mem _ List.mem_cons_self))
abbrev wordsD : PyData := .tuple (drs.map fun d => .str d.s)
theorem pb_no {w h e : Nat} {d : Dr} (k : pbOk w h e d = false) : pb w h e d = none := by
  unfold pb
  rw [k]; rfl
theorem pb_yes {w h e : Nat} {d : Dr} (k : pbOk w h e d = true) : pb w h e d = some (pbY w e d * w + pbX w e d).toNat := by
  unfold pb
  rw [k]; rfl
theorem isNone_optD (o : Option Nat) : (!isNone (optD o)) = o.isSome := by cases o <;> rfl
/-! ### the law's own slide -/
def lmX (w e : Nat) (d : Dr) : Int := match d with
  | .left => (e : Int) % (w : Int) + 1
  | .right => (e : Int) % (w : Int) - 1
  | _ => (e : Int) % (w : Int)
def lmY (w e : Nat) (d : Dr) : Int := match d with
  | .up => (e : Int) / (w : Int) + 1
  | .down => (e : Int) / (w : Int) - 1
  | _ => (e : Int) / (w : Int)
theorem lmX_eq (w e : Nat) (d : Dr) : lmX w e d = pbX w e d := by
  cases d
  · exact (Int.add_zero _).symm
  · exact (Int.add_zero _).symm
  · rfl
  · rfl
theorem lmY_eq (w e : Nat) (d : Dr) : lmY w e d = pbY w e d := by
  cases d
  · rfl
  · rfl
  · exact (Int.add_zero _).symm
  · exact (Int.add_zero _).symm
theorem lm_out (w h e : Nat) (d : Dr) : (decide (pbX w e d < 0) || (decide (pbY w e d < 0) || (decide ((w : Int) ≤ pbX w e d) || decide ((h : Int) ≤ pbY w e d)))) = !pbOk w h e d := by
  rw [Bool.eq_iff_iff]
  unfold pbOk
  simp only [Bool.or_eq_true, decide_eq_true_eq, Bool.not_eq_true', Bool.and_eq_false_iff, decide_eq_false_iff_not]
  omega
def lmD (w h : Nat) (ns : List Int) (d : Dr) : PyData := match pb w h (ns.idxOf 0) d with
  | some p => iT (slI ns (ns.idxOf 0) p)
  | none => .none
theorem isNone_lmD (w h : Nat) (ns : List Int) (d : Dr) : (!isNone (lmD w h ns d)) = (pb w h (ns.idxOf 0) d).isSome := by
  unfold lmD
  cases pb w h (ns.idxOf 0) d <;> rfl
theorem lm_found {w h : Nat} (f : Fl w h) {ns : List Int} (hp : ns.Perm (rg (w * h))) (p : Nat) : ((ns.map fun x => PyData.int (if x = 0 then ns.getD p 0 else x)).set p (.int 0)) = (slI ns (ns.idxOf 0) p).map PyData.int := by
  have hl : ns.length = w * h := by rw [hp.length_eq, rg_len]
  have f2 := f.m2
  have hi := idx_lt hp (show 0 < w * h by omega)
  have hi' : ns.idxOf 0 < ns.length := by omega
  have e := map_tile (t := ns.getD p 0) hi' (perm_nodup hp) (at_idx hi')
  unfold slI
  rw [← e, List.map_set, List.map_map]; rfl
theorem dr_eq' (a b : Dr) : PyData.eqv (.str a.s) (.str b.s) = decide (a = b) := by
  cases a <;> cases b <;> decide +kernel
theorem okDr (d : Dr) : okD (.str d.s) = true := by cases d <;> decide +kernel
theorem lay_drs : ∀ ds : List Dr, PyData.canLayAll0 (ds.map fun d => PyData.str d.s) = true
  | [] => by rw [List.map_nil, PyData.canLayAll0]
  | d :: ds => by
    rw [List.map_cons, PyData.canLayAll0, lay_drs ds, Bool.and_true]
    cases d <;> decide +kernel
theorem depth_drs : ∀ ds : List Dr, PyData.depthAll (ds.map fun d => PyData.str d.s) = 0
  | [] => by simp [PyData.depthAll]
  | d :: ds => by
    rw [List.map_cons, PyData.depthAll, depth_drs ds]
    simp [PyData.depth]
theorem noDs_drs : ∀ ds : List Dr, noDs (ds.map fun d => PyData.str d.s) = true
  | [] => rfl
  | d :: ds => by show (noD (.str d.s) && noDs (ds.map fun d => PyData.str d.s)) = true; rw [noDs_drs ds]; rfl
theorem okDrs (ds : List Dr) : okD (.list (ds.map fun d => .str d.s)) = true := by
  unfold okD SeqAt.shaped
  rw [Bool.and_eq_true, Bool.and_eq_true]
  refine ⟨noDs_drs ds, ?_, decide_eq_true ?_⟩
  · rw [PyData.canLay0]; exact lay_drs ds
  · rw [PyData.depth, depth_drs]; decide
theorem eqv_drs (as bs : List Dr) : PyData.eqv (.list (as.map fun d => .str d.s)) (.list (bs.map fun d => .str d.s)) = decide (as = bs) := by
  rw [PyData.eqv]
  induction as generalizing bs with
  | nil => cases bs <;> simp [PyData.eqvAll]
  | cons a as ih =>
    cases bs with
    | nil => simp [PyData.eqvAll]
    | cons b bs =>
      rw [List.map_cons, List.map_cons, PyData.eqvAll, ih, dr_eq']
      by_cases h : a = b <;> by_cases h' : as = bs <;> simp [h, h']
/-! ### runs of moves -/
abbrev wL (ds : List Dr) : List PyData := ds.map fun d => .str d.s
theorem noX_wL (ds : List Dr) : (wL ds).all (fun x => !isX x) = true := by
  show ((ds.map fun d => PyData.str d.s).all fun x => !isX x) = true
  rw [List.all_map]
  exact List.all_eq_true.mpr fun _ _ => rfl
/-- the words ds lead from S 0 over all of SS -/
structure Walk (w h : Nat) (fst : List Int) (ds : List Dr) (SS : List (List Int)) : Prop where
  len : SS.length = ds.length + 1
  at_ : ∀ i, i ≤ ds.length → ∃ S, SS[i]? = some S ∧ S.Perm (rg (w * h)) ∧ mvs w h fst (wL (ds.take i)) = some S
theorem Walk.start {w h : Nat} {fst : List Int} (hp : fst.Perm (rg (w * h))) : Walk w h fst [] [fst] :=
  ⟨rfl, fun i hi => by
    have : i = 0 := Nat.le_zero.mp hi
    subst this
    exact ⟨fst, rfl, hp, rfl⟩⟩
theorem Walk.last {w h : Nat} {fst : List Int} {ds : List Dr} {SS : List (List Int)} (W : Walk w h fst ds SS) : ∃ S, SS[ds.length]? = some S ∧ S.Perm (rg (w * h)) ∧ mvs w h fst (wL ds) = some S := by
  obtain ⟨S, h1, h2, h3⟩ := W.at_ ds.length (Nat.le_refl _)
  rw [List.take_length] at h3
  exact ⟨S, h1, h2, h3⟩
theorem Walk.step {w h : Nat} (f : Fl w h) {fst : List Int} {ds : List Dr} {SS : List (List Int)} (W : Walk w h fst ds SS) {S : List Int} {d : Dr} {p : Nat} (hS : SS[ds.length]? = some S) (hp : S.Perm (rg (w * h))) (hb : pb w h (S.idxOf 0) d = some p) : Walk w h fst (ds ++ [d]) (SS ++ [slI S (S.idxOf 0) p]) := by
  refine ⟨by rw [List.length_append, List.length_append, W.len]; rfl, fun i hi => ?_⟩
  rw [List.length_append, List.length_singleton] at hi
  by_cases h1 : i ≤ ds.length
  · obtain ⟨S', e1, e2, e3⟩ := W.at_ i h1
    exact ⟨S', by rw [List.getElem?_append_left (by rw [W.len]; omega)]; exact e1, e2, by rw [List.take_append_of_le_length h1]; exact e3⟩
  · have : i = ds.length + 1 := by omega
    subst this
    obtain ⟨S', e1, e2, e3⟩ := W.last
    rw [hS] at e1
    cases e1
    refine ⟨_, ?_, mv1_perm f hp (mv1_s hb), ?_⟩
    · rw [← W.len, List.getElem?_append_right (Nat.le_refl _), Nat.sub_self]; rfl
    · have : (ds ++ [d]).take (ds.length + 1) = ds ++ [d] := List.take_of_length_le (by rw [List.length_append]; exact Nat.le_refl _)
      rw [this]
      show mvs w h fst ((ds ++ [d]).map fun d => PyData.str d.s) = _
      rw [List.map_append, mvs_app, e3]
      exact mvs_one (mv1_s hb)
theorem wds_len (w h e : Nat) : (wdsAt w h e).length ≤ 4 := List.length_filter_le _ _
end Sf

set_option Elab.async false
set_option linter.all false
set_option maxRecDepth 100000
set_option maxHeartbeats 8000000

namespace Sf
open PySem L2 Dx
def top (i : Nat) : Stmt := PySem.Challenge.pw_slidefloor_k02_moves_one_by_one.main.body.getD i (.Pass ⟨0, 0, 0, 0⟩)
structure Ad where
  SlideError : Addr
  BadFloor : Addr
  BadStanding : Addr
  BadMove : Addr
  BadNumber : Addr
  BadText : Addr
  TooMany : Addr
  NothingDone : Addr
  a_WORDS : Addr
  a_FROM : Addr
  z : Addr
/-- what the walk asks of the text as the top has left it -/
structure Txt (w : World) (K : PySem.W.Frag) (mg : Str → Option Value) (A : Ad) : Prop where
  len : mg "len" = none
  isinstance : mg "isinstance" = none
  all : mg "all" = none
  sorted : mg "sorted" = none
  list : mg "list" = none
  tuple : mg "tuple" = none
  range : mg "range" = none
  sum : mg "sum" = none
  int : mg "int" = none
  bool : mg "bool" = none
  str : mg "str" = none
  min : mg "min" = none
  max : mg "max" = none
  abs : mg "abs" = none
  enumerate : mg "enumerate" = none
  ValueError : mg "ValueError" = none
  c_MOST_SIDE : Co mg "MOST_SIDE" (.int 4)
  c_WORDS : Co mg "WORDS" (.ref A.a_WORDS)
  t_WORDS : ∀ F : Hp, Is K F (.ref A.a_WORDS) (.tuple [.str "up", .str "down", .str "left", .str "right"])
  c_FROM : Co mg "FROM" (.ref A.a_FROM)
  d_FROM : KD K w A.a_FROM [("up", .tuple [.int 0, .int 1]), ("down", .tuple [.int 0, .int (-1)]), ("left", .tuple [.int 1, .int 0]), ("right", .tuple [.int (-1), .int 0])]
  x_SlideError : XC K mg "SlideError" A.SlideError
  x_BadFloor : XC K mg "BadFloor" A.BadFloor
  x_BadStanding : XC K mg "BadStanding" A.BadStanding
  x_BadMove : XC K mg "BadMove" A.BadMove
  x_BadNumber : XC K mg "BadNumber" A.BadNumber
  x_BadText : XC K mg "BadText" A.BadText
  x_TooMany : XC K mg "TooMany" A.TooMany
  x_NothingDone : XC K mg "NothingDone" A.NothingDone
  e_BadFloor : ExcC K A.BadFloor
  m_BadFloor : PySem.W.exmOne K (.ref A.BadFloor) (.ref A.SlideError) = some true
  k_BadFloor_SlideError : PySem.W.kitOne K (.ref A.BadFloor) (.ref A.SlideError) = some true
  k_BadFloor_BadFloor : PySem.W.kitOne K (.ref A.BadFloor) (.ref A.BadFloor) = some true
  k_BadFloor_BadStanding : PySem.W.kitOne K (.ref A.BadFloor) (.ref A.BadStanding) = some false
  k_BadFloor_BadMove : PySem.W.kitOne K (.ref A.BadFloor) (.ref A.BadMove) = some false
  k_BadFloor_BadNumber : PySem.W.kitOne K (.ref A.BadFloor) (.ref A.BadNumber) = some false
  k_BadFloor_BadText : PySem.W.kitOne K (.ref A.BadFloor) (.ref A.BadText) = some false
  k_BadFloor_TooMany : PySem.W.kitOne K (.ref A.BadFloor) (.ref A.TooMany) = some false
  k_BadFloor_NothingDone : PySem.W.kitOne K (.ref A.BadFloor) (.ref A.NothingDone) = some false
  k_BadFloor_ValueError : PySem.W.kitOne K (.ref A.BadFloor) (.type "ValueError") = some true
  e_BadStanding : ExcC K A.BadStanding
  m_BadStanding : PySem.W.exmOne K (.ref A.BadStanding) (.ref A.SlideError) = some true
  k_BadStanding_SlideError : PySem.W.kitOne K (.ref A.BadStanding) (.ref A.SlideError) = some true
  k_BadStanding_BadFloor : PySem.W.kitOne K (.ref A.BadStanding) (.ref A.BadFloor) = some false
  k_BadStanding_BadStanding : PySem.W.kitOne K (.ref A.BadStanding) (.ref A.BadStanding) = some true
  k_BadStanding_BadMove : PySem.W.kitOne K (.ref A.BadStanding) (.ref A.BadMove) = some false
  k_BadStanding_BadNumber : PySem.W.kitOne K (.ref A.BadStanding) (.ref A.BadNumber) = some false
  k_BadStanding_BadText : PySem.W.kitOne K (.ref A.BadStanding) (.ref A.BadText) = some false
  k_BadStanding_TooMany : PySem.W.kitOne K (.ref A.BadStanding) (.ref A.TooMany) = some false
  k_BadStanding_NothingDone : PySem.W.kitOne K (.ref A.BadStanding) (.ref A.NothingDone) = some false
  k_BadStanding_ValueError : PySem.W.kitOne K (.ref A.BadStanding) (.type "ValueError") = some true
  e_BadMove : ExcC K A.BadMove
  m_BadMove : PySem.W.exmOne K (.ref A.BadMove) (.ref A.SlideError) = some true
  k_BadMove_SlideError : PySem.W.kitOne K (.ref A.BadMove) (.ref A.SlideError) = some true
  k_BadMove_BadFloor : PySem.W.kitOne K (.ref A.BadMove) (.ref A.BadFloor) = some false
  k_BadMove_BadStanding : PySem.W.kitOne K (.ref A.BadMove) (.ref A.BadStanding) = some false
  k_BadMove_BadMove : PySem.W.kitOne K (.ref A.BadMove) (.ref A.BadMove) = some true
  k_BadMove_BadNumber : PySem.W.kitOne K (.ref A.BadMove) (.ref A.BadNumber) = some false
  k_BadMove_BadText : PySem.W.kitOne K (.ref A.BadMove) (.ref A.BadText) = some false
  k_BadMove_TooMany : PySem.W.kitOne K (.ref A.BadMove) (.ref A.TooMany) = some false
  k_BadMove_NothingDone : PySem.W.kitOne K (.ref A.BadMove) (.ref A.NothingDone) = some false
  k_BadMove_ValueError : PySem.W.kitOne K (.ref A.BadMove) (.type "ValueError") = some true
  n_SlideError : PySem.W.kitOne K (.type "NoneType") (.ref A.SlideError) = some false
  n_BadFloor : PySem.W.kitOne K (.type "NoneType") (.ref A.BadFloor) = some false
  n_BadStanding : PySem.W.kitOne K (.type "NoneType") (.ref A.BadStanding) = some false
  n_BadMove : PySem.W.kitOne K (.type "NoneType") (.ref A.BadMove) = some false
  n_BadNumber : PySem.W.kitOne K (.type "NoneType") (.ref A.BadNumber) = some false
  n_BadText : PySem.W.kitOne K (.type "NoneType") (.ref A.BadText) = some false
  n_TooMany : PySem.W.kitOne K (.type "NoneType") (.ref A.TooMany) = some false
  n_NothingDone : PySem.W.kitOne K (.type "NoneType") (.ref A.NothingDone) = some false
section
variable {P : Program} {w : World} {K : PySem.W.Frag} {mg : Str → Option Value} {base : Heap} {A : Ad}
/-! ### _law_draw -/
abbrev s_law_draw : Stmt := top 26
theorem sc_law_draw : FnScope ["_law_script", "_law_k", "_law_cell", "_law_number"] ["_law_script", "_law_k"] (defScope s_law_draw) := ⟨rfl, rfl, rfl, by decide +kernel, rfl, by decide +kernel, by decide +kernel⟩
abbrev sp_law_draw (K : PySem.W.Frag) (mg : Str → Option Value) : Sp := spO K mg (fun x : List Int × Int => 0 ≤ x.2 ∧ x.2 ≤ 1000000) (fun x => [scrD x.1, .int x.2]) (fun x => .ok (.int (drawI x.1 x.2)))

theorem c_law_draw (T : Txt w K mg A) (F : At K mg "_law_draw" s_law_draw ["_law_script", "_law_k"]) : Cl P w K mg base "_law_draw" ["_law_script", "_law_k"] 1 (sp_law_draw K mg) := by
  obtain ⟨f, fd, F, hm, hb⟩ := F.ex
  refine ⟨f, fd, okO F sc_law_draw (fun _ => rfl) (fun cdv Ar outer s H E hr => ⟨_, (pss_cons (ps_set (i := 2) sc_law_draw.nd rfl (Or.inl rfl) pe_int)
      (pss_cons (ps_if (pt_cmpR (op_neD hr.units) (pv 0) (pe_lst pa_nil) (nomark _)) (pss_one (ps_set (i := 2) sc_law_draw.nd rfl (Or.inl rfl) (pe_op op_add (pe_op op_mul pe_int (pe_callB (cr_sum rfl) (by rfl) T.sum (by decide +kernel) (pa_cons (pv 0) pa_nil))) (pe_ix ix_list (pv 0) (pe_op op_mod (pv 1) (pe_callB call_len_seq (by rfl) T.len (by decide +kernel) (pa_cons (pv 0) pa_nil))) (fun _ _ => rfl))))) pss_nil)
      (pss_cons (ps_set (i := 3) sc_law_draw.nd rfl (Or.inl rfl) (pe_op op_add (pe_op op_add (pe_op op_mod (pv 2) pe_int) (pe_op op_mul pe_int (pv 1))) pe_int))
      (pss_one (ps_ret (pe_op op_fdiv (pe_op op_mod (pe_op op_mul (pe_op op_mod (pe_op op_mul (pv 3) (pv 3)) pe_int) (pv 3)) pe_int) pe_int)))))), ?_⟩), hm, F.kp, hb⟩
  rintro ⟨ns, k⟩ ⟨hk, hk2⟩
  have hk : 0 ≤ k := hk
  have hk2 : k ≤ 1000000 := hk2
  obtain ⟨b1, b2⟩ := num_bd ns hk hk2
  have m1 : 0 ≤ cellI ns k % 1000000007 := Int.emod_nonneg _ (by decide)
  have m2 : cellI ns k % 1000000007 < 1000000007 := Int.emod_lt_of_pos _ (by decide)
  refine run_seq (run_set evd_int ?_)
  refine run_seqE [some (.d (scrD ns)), some (.d (.int k)), some (.d (.int (cellI ns k))), none] ?_ ?_
  · refine run_if (b := !ns.isEmpty) (evt_test (evr (evd_scrNe (evr (evd_var rfl)) (evl_o (evo_lst eva_nil (by decide)))))) (fun h => ?_) (fun h => ?_)
    · have hne : ns ≠ [] := fun z => by subst z; cases h
      have hl : 0 < ns.length := List.length_pos_iff.mpr hne
      have l1 : 0 ≤ k % (ns.length : Int) := Int.emod_nonneg _ (by omega)
      have l2 : k % (ns.length : Int) < ns.length := Int.emod_lt_of_pos _ (by omega)
      have l3 : (k % (ns.length : Int)).toNat < ns.length := by omega
      have l4 : k % (ns.length : Int) = ((k % (ns.length : Int)).toNat : Int) := by omega
      refine run_set (evd_eq (evd_add (evr (evd_mul (evr evd_int) (evr (evd_scrSum (evr (evd_var rfl)))) (Or.inl ⟨by decide, by decide⟩))) (evr (evd_scrIx (n := (k % (ns.length : Int)).toNat) (j := ns.getD (k % (ns.length : Int)).toNat 0) (evr (evd_var rfl)) (evr (evd_mod (evr (evd_var rfl)) (evr (evd_scrLen (evr (evd_var rfl)))) (show (0 : Int) < (ns.length : Int) by omega))) (ixN_of l4 l3) ?_))) ?_) rfl
      · rw [List.getD_eq_getElem?_getD, List.getElem?_eq_getElem l3]; rfl
      · unfold cellI; rw [if_neg hne]
    · have he : ns = [] := by
        cases ns with
        | nil => rfl
        | cons _ _ => cases h
      refine run_next ?_
      subst he; rfl
  · refine run_seq (run_set (evd_eq (evd_add (evr (evd_add (evr (evd_mod (evr (evd_var rfl)) (evr evd_int) (by decide))) (evr (evd_mul (evr evd_int) (evr (evd_var rfl)) (Or.inl ⟨by decide, by decide⟩))))) (evr evd_int)) (d' := .int (numI ns k)) rfl) ?_)
    have z1 : 0 ≤ numI ns k * numI ns k % 1000000007 := Int.emod_nonneg _ (by decide)
    have z2 : numI ns k * numI ns k % 1000000007 < 1000000007 := Int.emod_lt_of_pos _ (by decide)
    exact run_ret (evd_fdiv (evr (evd_mod (evr (evd_mul (evr (evd_mod (evr (evd_mul (evr (evd_var rfl)) (evr (evd_var rfl)) (Or.inl ⟨by omega, by omega⟩))) (evr evd_int) (by decide))) (evr (evd_var rfl)) (Or.inl ⟨by omega, by omega⟩))) (evr evd_int) (by decide))) (evr evd_int) ⟨by decide, by decide⟩) rfl

/-! ### _law_floor -/
abbrev s_law_floor : Stmt := top 29
theorem sc_law_floor : FnScope ["_law_number", "_law_wide", "_law_high"] ["_law_number"] (defScope s_law_floor) := ⟨rfl, rfl, rfl, by decide +kernel, rfl, by decide +kernel, by decide +kernel⟩
abbrev sp_law_floor (K : PySem.W.Frag) (mg : Str → Option Value) : Sp := spO K mg (fun _ : Nat => True) (fun n => [.int n]) (fun n => .ok (fl (flW n) (flH n)))

theorem c_law_floor (T : Txt w K mg A) (F : At K mg "_law_floor" s_law_floor ["_law_number"]) : Cl P w K mg base "_law_floor" ["_law_number"] 1 (sp_law_floor K mg) := by
  obtain ⟨f, fd, F, hm, hb⟩ := F.ex
  refine ⟨f, fd, okO F sc_law_floor (fun _ => rfl) (fun cdv Ar outer s H E hr => ⟨_, (pss_cons (ps_par (i := 1) (j := 2) (by rfl) sc_law_floor.nd rfl rfl (by decide) rfl rfl (pa_cons (pe_op op_add pe_int (pe_op op_mod (pv 0) pe_int)) (pa_cons (pe_op op_add pe_int (pe_op op_mod (pe_op op_fdiv (pv 0) pe_int) pe_int)) pa_nil)) (by rfl))
      (pss_cons (ps_if (pt_cmpR (op_eqD hr.units) (pe_op op_mul (pv 1) (pv 2)) pe_int (nomark _)) (pss_one (ps_set (i := 1) sc_law_floor.nd rfl (Or.inl rfl) (pe_op op_add pe_int (pe_op op_mod (pe_op op_fdiv (pv 0) pe_int) pe_int)))) pss_nil)
      (pss_one (ps_ret (pe_tupF (pa_cons (pv 1) (pa_cons (pv 2) pa_nil))))))), ?_⟩), hm, F.kp, hb⟩
  intro n _
  have h2 : n / 4 % 4 < 4 := Nat.mod_lt _ (by decide)
  refine run_seq (run_par (d := .int ((1 + n % 4 : Nat) : Int)) (e := .int ((1 + n / 4 % 4 : Nat) : Int)) (eva_cons (evd_eq (evd_add (evr evd_int) (evr (evd_mod (evr (evd_var rfl)) (evr evd_int) (by decide)))) (congrArg PyData.int (by omega))) (eva_cons (evd_eq (evd_add (evr evd_int) (evr (evd_mod (evr (evd_fdiv (evr (evd_var rfl)) (evr evd_int) ⟨by decide, by decide⟩)) (evr evd_int) (by decide)))) (congrArg PyData.int (by omega))) eva_nil)) ?_)
  refine run_seqE [some (.d (.int n)), some (.d (.int (flW n : Nat))), some (.d (.int (flH n : Nat)))] ?_ ?_
  · refine run_if (b := decide ((1 + n % 4) * (1 + n / 4 % 4) = 1)) (evt_eq (evt_test (evr (evd_eqD (evr (evd_mul (evr (evd_var rfl)) (evr (evd_var rfl)) (Or.inl ⟨by omega, by omega⟩))) (evr evd_int) rfl rfl))) ?_) (fun h => ?_) (fun h => ?_)
    · rw [eqv_int, ← Int.natCast_mul]
      exact eq_len ((1 + n % 4) * (1 + n / 4 % 4)) 1
    · refine run_set (evd_eq (evd_add (evr evd_int) (evr (evd_mod (evr (evd_fdiv (evr (evd_var rfl)) (evr evd_int) ⟨by decide, by decide⟩)) (evr evd_int) (by decide)))) (d' := .int ((2 + n / 16 % 3 : Nat) : Int)) (congrArg PyData.int (by omega))) ?_
      have h' := of_decide_eq_true h
      show [some (Sl.d (.int n)), some (.d (.int ((2 + n / 16 % 3 : Nat) : Int))), some (.d (.int ((1 + n / 4 % 4 : Nat) : Int)))] = _
      unfold flW flH
      rw [if_pos h']
    · refine run_next ?_
      have h' := of_decide_eq_false h
      show [some (Sl.d (.int n)), some (.d (.int ((1 + n % 4 : Nat) : Int))), some (.d (.int ((1 + n / 4 % 4 : Nat) : Int)))] = _
      unfold flW flH
      rw [if_neg h']
  · exact run_ret (evd_tup (eva_cons (evd_var rfl) (eva_cons (evd_var rfl) eva_nil)) (lenOk rfl)) rfl

/-! ### _law_standing -/
abbrev s_law_standing : Stmt := top 30
theorem sc_law_standing : FnScope ["_law_script", "_law_k", "_law_floor_here", "_law_rows", "_law_j", "_law_row"] ["_law_script", "_law_k", "_law_floor_here"] (defScope s_law_standing) := ⟨rfl, rfl, rfl, by decide +kernel, rfl, by decide +kernel, by decide +kernel⟩
abbrev sp_law_standing (K : PySem.W.Frag) (mg : Str → Option Value) : Sp := spO K mg (fun x : List Int × Nat × Nat × Nat => Fl x.2.2.1 x.2.2.2 ∧ x.2.1 ≤ 900000) (fun x => [scrD x.1, .int x.2.1, fl x.2.2.1 x.2.2.2]) (fun x => .ok (iT (stI x.1 x.2.1 (x.2.2.1 * x.2.2.2))))

theorem c_law_standing (T : Txt w K mg A) (c_law_draw : Cl P w K mg base "_law_draw" ["_law_script", "_law_k"] 1 (sp_law_draw K mg)) (F : At K mg "_law_standing" s_law_standing ["_law_script", "_law_k", "_law_floor_here"]) : Cl P w K mg base "_law_standing" ["_law_script", "_law_k", "_law_floor_here"] 2 (sp_law_standing K mg) := by
  obtain ⟨f, fd, F, hm, hb⟩ := F.ex
  refine ⟨f, fd, okO F sc_law_standing (fun _ => rfl) (fun cdv Ar outer s H E hr => ⟨_, (pss_cons (ps_setLc (own := [("_law_j", 4)]) (g := gName 4) (tt := tYes) (i := 3) rfl sc_law_standing.nd rfl rfl (sw_true rfl rfl rfl (by decide +kernel)) (pi_range1 (by rfl) T.range (pa_cons (pe_op op_mul (pe_ix ix_tup (pv 2) pe_int (fun _ _ => rfl)) (pe_ix ix_tup (pv 2) pe_int (fun _ _ => rfl))) pa_nil)) (blkOk_by (own := [("_law_j", 4)]) (N := ["_law_script", "_law_k", "_law_floor_here", "_law_rows", "_law_j", "_law_row"]) (sc := defScope s_law_standing) (by decide +kernel)) (fun _ _ _ _ _ => (pg_name (i := 4) sc_law_standing.nd rfl (Or.inl rfl))) (fun _ _ _ _ _ => pts_nil) (fun _ _ _ _ _ => (pe_tupF (pa_cons (pe_c (E := E0) c_law_draw (hr.mono (by decide)) (by rfl) passL (pa_cons (pv 0) (pa_cons (pe_op op_add (pv 1) (pv 4)) pa_nil))) (pa_cons (pv 4) pa_nil)))))
      (pss_one (ps_ret (pe_callTy call_tupF (by rfl) T.tuple (by decide +kernel) (pa_cons (pe_lc (own := [("_law_row", 5)]) (g := gName 5) (tt := tYes) rfl sc_law_standing.nd (pi_list (pe_callB (cr_sortD hr.units) (by rfl) T.sorted (by decide +kernel) (pa_cons (pv 3) pa_nil))) (blkOk_by (own := [("_law_row", 5)]) (N := ["_law_script", "_law_k", "_law_floor_here", "_law_rows", "_law_j", "_law_row"]) (sc := defScope s_law_standing) (by decide +kernel)) (fun _ _ _ _ _ => (pg_name (i := 5) sc_law_standing.nd rfl (Or.inl rfl))) (fun _ _ _ _ _ => pts_nil) (fun _ _ _ _ _ => (pe_ix (show IxR _ (rIxT K) from ix_tup) (pv 5) pe_int (fun _ _ => rfl)))) pa_nil))))), ?_⟩), hm, F.kp, hb⟩
  rintro ⟨ns, k, wd, hg⟩ ⟨f, hk⟩
  have hk : k ≤ 900000 := hk
  have f4 : wd ≤ 4 := f.w4
  have f16 : wd * hg ≤ 16 := f.m16
  have hrow : (rowsI ns k (wd * hg)).length = wd * hg := by unfold rowsI; rw [List.length_map, List.length_range]
  refine run_seq (run_setO (evo_eq (evo_mapR (N := wd * hg) (fun j => pairD (drawI ns ((k : Int) + (j : Int)), (j : Int))) (evb_cons (evr (evd_eq (evd_mul (evr (evd_ixT (evd_var rfl) (evr evd_int) rfl rfl)) (evr (evd_ixT (evd_var rfl) (evr evd_int) rfl rfl)) (f.cm _)) (d' := .int ((wd * hg : Nat) : Int)) rfl)) evb_nil) rfl (by omega) fun j hj => evd_tup (eva_cons (evd_call (ns, (k : Int) + (j : Int)) (eva_cons (evd_var rfl) (eva_cons (evd_add (evr (evd_var rfl)) (evr (evd_var rfl))) eva_nil)) ⟨by show (0 : Int) ≤ (k : Int) + (j : Int); omega, by show (k : Int) + (j : Int) ≤ 1000000; omega⟩ rfl) (eva_cons (evd_var rfl) eva_nil)) (lenOk rfl)) (d' := (rowsI ns k (wd * hg)).map pairD) (by unfold rowsI; rw [List.map_map]; rfl)) fun a => ?_)
  refine run_ret (evd_eq (evd_tupO (evl_o (evo_mapL ((rowsI ns k (wd * hg)).mergeSort fun p q => decide (p.1 < q.1 ∨ (p.1 = q.1 ∧ p.2 ≤ q.2))) (fun p => .int p.2) (g := pairD) (evl_eq (evl_o (evo_sortL (evl_var rfl) (srt_pairs _))) (srtD_pairs _)) rfl rfl (by rw [List.length_mergeSort, hrow]; omega) fun p _ => evd_ixT (evd_var rfl) (evr evd_int) rfl rfl))) ?_) rfl
  show PyData.tuple _ = PyData.tuple ((List.map Prod.snd _).map PyData.int)
  rw [List.map_map]; rfl

/-! ### _law_moved -/
abbrev s_law_moved : Stmt := top 31
theorem sc_law_moved : FnScope ["_law_floor_here", "_law_standing_here", "_law_word_here", "_law_wide", "_law_high", "_law_empty", "_law_x", "_law_y", "_law_tile", "_law_found", "_law_one"] ["_law_floor_here", "_law_standing_here", "_law_word_here"] (defScope s_law_moved) := ⟨rfl, rfl, rfl, by decide +kernel, rfl, by decide +kernel, by decide +kernel⟩
abbrev sp_law_moved (K : PySem.W.Frag) (mg : Str → Option Value) : Sp := spO K mg (fun x : (Nat × Nat × List Int) × Dr => Fl x.1.1 x.1.2.1 ∧ x.1.2.2.Perm (rg (x.1.1 * x.1.2.1))) (fun x => [fl x.1.1 x.1.2.1, iT x.1.2.2, .str x.2.s]) (fun x => .ok (lmD x.1.1 x.1.2.1 x.1.2.2 x.2))

theorem c_law_moved (T : Txt w K mg A) (F : At K mg "_law_moved" s_law_moved ["_law_floor_here", "_law_standing_here", "_law_word_here"]) : Cl P w K mg base "_law_moved" ["_law_floor_here", "_law_standing_here", "_law_word_here"] 1 (sp_law_moved K mg) := by
  obtain ⟨f, fd, F, hm, hb⟩ := F.ex
  refine ⟨f, fd, okO F sc_law_moved (fun _ => rfl) (fun cdv Ar outer s H E hr => ⟨_, (pss_cons (ps_asg (pv 0) (pg_tup (by rfl) (pgs_cons (pg_name (i := 3) sc_law_moved.nd rfl (Or.inl rfl)) (pgs_cons (pg_name (i := 4) sc_law_moved.nd rfl (Or.inl rfl)) pgs_nil))))
      (pss_cons (ps_set (i := 5) sc_law_moved.nd rfl (Or.inl rfl) (pe_bt PySem.F.slot_tuple_index PySem.F.type_tuple_index mt_tupIx (pv 1) (pa_cons pe_int pa_nil)))
      (pss_cons (ps_par (i := 6) (j := 7) (by rfl) sc_law_moved.nd rfl rfl (by decide) rfl rfl (pa_cons (pe_op op_mod (pv 5) (pv 3)) (pa_cons (pe_op op_fdiv (pv 5) (pv 3)) pa_nil)) (by rfl))
      (pss_cons (ps_if (pt_cmpR (op_eqD hr.units) (pv 2) pe_str (nomark _)) (pss_one (ps_set (i := 7) sc_law_moved.nd rfl (Or.inl rfl) (pe_op op_add (pv 7) pe_int))) (pss_one (ps_if (pt_cmpR (op_eqD hr.units) (pv 2) pe_str (nomark _)) (pss_one (ps_set (i := 7) sc_law_moved.nd rfl (Or.inl rfl) (pe_op op_sub (pv 7) pe_int))) (pss_one (ps_if (pt_cmpR (op_eqD hr.units) (pv 2) pe_str (nomark _)) (pss_one (ps_set (i := 6) sc_law_moved.nd rfl (Or.inl rfl) (pe_op op_add (pv 6) pe_int))) (pss_one (ps_set (i := 6) sc_law_moved.nd rfl (Or.inl rfl) (pe_op op_sub (pv 6) pe_int))))))))
      (pss_cons (ps_if (PW.pt (pw_or (pt_cmpR op_lt (pv 6) pe_int (nomark _)) (pw_or (pt_cmpR op_lt (pv 7) pe_int (nomark _)) (pw_or (pt_cmpR op_ge (pv 6) (pv 3) (nomark _)) (pw_or1 (pt_cmpR op_ge (pv 7) (pv 4) (nomark _))))))) (pss_one (ps_ret pe_non)) pss_nil)
      (pss_cons (ps_set (i := 8) sc_law_moved.nd rfl (Or.inr rfl) (pe_ix ix_tup (pv 1) (pe_op op_add (pv 6) (pe_op op_mul (pv 7) (pv 3))) (fun _ _ => rfl)))
      (pss_cons (ps_setLc (own := [("_law_one", 10)]) (g := gName 10) (tt := tYes) (i := 9) rfl sc_law_moved.nd rfl rfl (sw_true rfl rfl rfl (by decide +kernel)) (pi_tup (pv 1)) (blkOk_by (own := [("_law_one", 10)]) (N := ["_law_floor_here", "_law_standing_here", "_law_word_here", "_law_wide", "_law_high", "_law_empty", "_law_x", "_law_y", "_law_tile", "_law_found", "_law_one"]) (sc := defScope s_law_moved) (by decide +kernel)) (fun _ _ _ _ _ => (pg_name (i := 10) sc_law_moved.nd rfl (Or.inl rfl))) (fun _ _ _ _ _ => pts_nil) (fun _ _ _ _ _ => (pe_ifExp (pt_cmpR (show OpR _ _ (rEqD K) from (op_eqD hr.units)) (pv 10) pe_int (nomark _)) (pv 8) (pv 10))))
      (pss_cons (ps_asg pe_int (pg_sub (pv 9) (pe_op op_add (pv 6) (pe_op op_mul (pv 7) (pv 3))) set_list))
      (pss_one (ps_ret (pe_callTy call_tupF (by rfl) T.tuple (by decide +kernel) (pa_cons (pv 9) pa_nil)))))))))))), ?_⟩), hm, F.kp, hb⟩
  rintro ⟨⟨wd, hg, ns⟩, d⟩ ⟨f, hp⟩
  have f : Fl wd hg := f
  have hp : ns.Perm (rg (wd * hg)) := hp
  have hl : ns.length = wd * hg := by rw [hp.length_eq, rg_len]
  have f1 := f.w1
  have f4 := f.w4
  have f2 := f.m2
  have f16 := f.m16
  have hi := idx_lt hp (show 0 < wd * hg by omega)
  have wpos : (0 : Int) < (wd : Int) := by omega
  refine run_seq (run_unpack (evd_var rfl) ?_)
  refine run_seq (run_set (evd_index (ns := ns) (evd_var rfl) (evr evd_int) (zero_mem hp (show 0 < wd * hg by omega))) ?_)
  show Run K mg E _ _ { nx := fun _ => Oc.ok (lmD wd hg ns d) = .ok .none, rt := fun c => Oc.ok (lmD wd hg ns d) = c }
  unfold lmD
  generalize he : ns.idxOf 0 = e at hi
  refine run_seq (run_par (d := .int ((e : Int) % (wd : Int))) (e := .int ((e : Int) / (wd : Int))) (eva_cons (evd_mod (evr (evd_var rfl)) (evr (evd_var rfl)) wpos) (eva_cons (evd_fdiv (evr (evd_var rfl)) (evr (evd_var rfl)) ⟨wpos, show (wd : Int) < 1073741824 by omega⟩) eva_nil)) ?_)
  refine run_seqE [some (.d (fl wd hg)), some (.d (iT ns)), some (.d (.str d.s)), some (.d (.int wd)), some (.d (.int hg)), some (.d (.int e)), some (.d (.int (lmX wd e d))), some (.d (.int (lmY wd e d))), none, none, none] ?_ ?_
  · cases d with
    | up => exact run_if (b := true) (evt_eq (evt_test (evr (evd_eqD (evr (evd_var rfl)) (evr evd_str) (okDr .up) (okDr .up)))) ((dr_eq' .up .up).trans rfl)) (fun _ => run_set (evd_add (evr (evd_var rfl)) (evr evd_int)) rfl) (fun h => nomatch h)
    | down => exact run_if (b := false) (evt_eq (evt_test (evr (evd_eqD (evr (evd_var rfl)) (evr evd_str) (okDr .down) (okDr .up)))) ((dr_eq' .down .up).trans rfl)) (fun h => nomatch h) fun _ => run_if (b := true) (evt_eq (evt_test (evr (evd_eqD (evr (evd_var rfl)) (evr evd_str) (okDr .down) (okDr .down)))) ((dr_eq' .down .down).trans rfl)) (fun _ => run_set (evd_sub (evr (evd_var rfl)) (evr evd_int)) rfl) (fun h => nomatch h)
    | left => exact run_if (b := false) (evt_eq (evt_test (evr (evd_eqD (evr (evd_var rfl)) (evr evd_str) (okDr .left) (okDr .up)))) ((dr_eq' .left .up).trans rfl)) (fun h => nomatch h) fun _ => run_if (b := false) (evt_eq (evt_test (evr (evd_eqD (evr (evd_var rfl)) (evr evd_str) (okDr .left) (okDr .down)))) ((dr_eq' .left .down).trans rfl)) (fun h => nomatch h) fun _ => run_if (b := true) (evt_eq (evt_test (evr (evd_eqD (evr (evd_var rfl)) (evr evd_str) (okDr .left) (okDr .left)))) ((dr_eq' .left .left).trans rfl)) (fun _ => run_set (evd_add (evr (evd_var rfl)) (evr evd_int)) rfl) (fun h => nomatch h)
    | right => exact run_if (b := false) (evt_eq (evt_test (evr (evd_eqD (evr (evd_var rfl)) (evr evd_str) (okDr .right) (okDr .up)))) ((dr_eq' .right .up).trans rfl)) (fun h => nomatch h) fun _ => run_if (b := false) (evt_eq (evt_test (evr (evd_eqD (evr (evd_var rfl)) (evr evd_str) (okDr .right) (okDr .down)))) ((dr_eq' .right .down).trans rfl)) (fun h => nomatch h) fun _ => run_if (b := false) (evt_eq (evt_test (evr (evd_eqD (evr (evd_var rfl)) (evr evd_str) (okDr .right) (okDr .left)))) ((dr_eq' .right .left).trans rfl)) (fun h => nomatch h) fun _ => run_set (evd_sub (evr (evd_var rfl)) (evr evd_int)) rfl
  · rw [lmX_eq, lmY_eq]
    refine run_seq (run_if (b := !pbOk wd hg e d) (evt_eq (evt_or (evt_test (evr (evd_lt (evr (evd_var rfl)) (evr evd_int)))) fun _ => evt_or (evt_test (evr (evd_lt (evr (evd_var rfl)) (evr evd_int)))) fun _ => evt_or (evt_test (evr (evd_ge (evr (evd_var rfl)) (evr (evd_var rfl))))) fun _ => evt_test (evr (evd_ge (evr (evd_var rfl)) (evr (evd_var rfl))))) (lm_out wd hg e d)) (fun h => ?_) (fun h => ?_))
    · have hk : pbOk wd hg e d = false := by rw [Bool.not_eq_true'] at h; exact h
      rw [pb_no hk]
      exact run_ret evd_non rfl
    · have hk : pbOk wd hg e d = true := by rw [Bool.not_eq_false'] at h; exact h
      rw [pb_yes hk]
      obtain ⟨q1, q2, q3⟩ := f.pb hi (pb_yes hk)
      have q4 : pbX wd e d + pbY wd e d * (wd : Int) = (((pbY wd e d * (wd : Int) + pbX wd e d).toNat : Nat) : Int) := by rw [Int.add_comm]; exact q3
      generalize (pbY wd e d * (wd : Int) + pbX wd e d).toNat = p at q1 q4
      have cw : ∀ y : Int, CMul y (wd : Int) := fun y => Or.inr ⟨by omega, by omega⟩
      have lm : (ns.map PyData.int).length = ns.length := List.length_map _
      refine run_next (run_seq (run_set (d := .int (ns.getD p 0)) (evd_ixT (n := p) (evd_var rfl) (evr (evd_add (evr (evd_var rfl)) (evr (evd_mul (evr (evd_var rfl)) (evr (evd_var rfl)) (cw _))))) (ixN_of q4 (by rw [lm]; omega)) (by rw [List.getElem?_map, getD_some 0 (show p < ns.length by omega)]; rfl)) ?_))
      refine run_seq (run_setO (evo_mapT (g := PyData.int) ns (fun x => .int (if x = 0 then ns.getD p 0 else x)) (evd_var rfl) rfl rfl (by omega) fun x _ => evd_if (b := decide (x = 0)) (evt_eq (evt_test (evr (evd_eqD (evr (evd_var rfl)) (evr evd_int) rfl rfl))) (by rw [eqv_int]; rfl)) (fun h => evd_eq (evd_var rfl) (by rw [if_pos (of_decide_eq_true h)])) (fun h => evd_eq (evd_var rfl) (by rw [if_neg (of_decide_eq_false h)]))) fun a => ?_)
      refine run_seq (run_setI (i := 9) (j := p) rfl evd_int (evr (evd_add (evr (evd_var rfl)) (evr (evd_mul (evr (evd_var rfl)) (evr (evd_var rfl)) (cw _))))) (ixN_of q4 (by rw [List.length_map]; omega)) ?_)
      refine run_ret (evd_tupO (evl_var rfl)) ?_
      have z := lm_found f hp p
      rw [he] at z
      exact congrArg (fun z => Oc.ok (.tuple z)) z.symm

/-! ### _law_words -/
abbrev s_law_words : Stmt := top 32
theorem sc_law_words : FnScope ["_law_floor_here", "_law_standing_here", "_law_word_here"] ["_law_floor_here", "_law_standing_here"] (defScope s_law_words) := ⟨rfl, rfl, rfl, by decide +kernel, rfl, by decide +kernel, by decide +kernel⟩
abbrev sp_law_words (K : PySem.W.Frag) (mg : Str → Option Value) : Sp := spO K mg (fun x : Nat × Nat × List Int => Fl x.1 x.2.1 ∧ x.2.2.Perm (rg (x.1 * x.2.1))) (fun x => [fl x.1 x.2.1, iT x.2.2]) (fun x => .own ((wdsAt x.1 x.2.1 (x.2.2.idxOf 0)).map fun d => .str d.s))

theorem c_law_words (T : Txt w K mg A) (c_law_moved : Cl P w K mg base "_law_moved" ["_law_floor_here", "_law_standing_here", "_law_word_here"] 1 (sp_law_moved K mg)) (F : At K mg "_law_words" s_law_words ["_law_floor_here", "_law_standing_here"]) : Cl P w K mg base "_law_words" ["_law_floor_here", "_law_standing_here"] 2 (sp_law_words K mg) := by
  obtain ⟨f, fd, F, hm, hb⟩ := F.ex
  refine ⟨f, fd, okO F sc_law_words (fun _ => rfl) (fun cdv Ar outer s H E hr => ⟨_, (pss_one (ps_ret (pe_lc (own := [("_law_word_here", 2)]) (g := gName 2)  rfl sc_law_words.nd (pi_tup (pe_tupF (pa_cons pe_str (pa_cons pe_str (pa_cons pe_str (pa_cons pe_str pa_nil)))))) (blkOk_by (own := [("_law_word_here", 2)]) (N := ["_law_floor_here", "_law_standing_here", "_law_word_here"]) (sc := defScope s_law_words) (by decide +kernel)) (fun _ _ _ _ _ => (pg_name (i := 2) sc_law_words.nd rfl (Or.inl rfl))) (fun _ _ _ _ _ => pts_one (pt_cmpR op_notN (pe_c (E := E0) c_law_moved (hr.mono (by decide)) (by rfl) passL (pa_cons (pv 0) (pa_cons (pv 1) (pa_cons (pv 2) pa_nil)))) pe_non (nomark _))) (fun _ _ _ _ _ => (pv 2))))), ?_⟩), hm, F.kp, hb⟩
  rintro ⟨wd, hg, ns⟩ ⟨f, hp⟩
  exact run_retO (evo_lcT (xs := drs) (g := fun d => .str d.s) (fun d => (pb wd hg (ns.idxOf 0) d).isSome) (fun d => .str d.s) (evd_eq (evd_tup (eva_cons evd_str (eva_cons evd_str (eva_cons evd_str (eva_cons evd_str eva_nil)))) (lenOk rfl)) rfl) rfl rfl (by decide) (fun d _ => evt_eq (evt_test (evr (evd_notN (evr (evd_call ((wd, hg, ns), d) (eva_cons (evd_var rfl) (eva_cons (evd_var rfl) (eva_cons (evd_var rfl) eva_nil))) ⟨f, hp⟩ rfl))))) (isNone_lmD wd hg ns d)) fun d _ _ => evd_var rfl) rfl

/-! ### is_among -/
abbrev s_is_among : Stmt := top 11
theorem sc_is_among : FnScope ["thing", "least", "most"] ["thing", "least", "most"] (defScope s_is_among) := ⟨rfl, rfl, rfl, by decide +kernel, rfl, by decide +kernel, by decide +kernel⟩
abbrev sp_is_among (K : PySem.W.Frag) (mg : Str → Option Value) : Sp := spO K mg (fun x : PyData × Int × Int => isX x.1 = false) (fun x => [x.1, .int x.2.1, .int x.2.2]) (fun x => .ok (.bool (amongD x.1 x.2.1 x.2.2)))

theorem c_is_among (T : Txt w K mg A) (F : At K mg "is_among" s_is_among ["thing", "least", "most"]) : Cl P w K mg base "is_among" ["thing", "least", "most"] 1 (sp_is_among K mg) := by
  obtain ⟨f, fd, F, hm, hb⟩ := F.ex
  refine ⟨f, fd, okO F sc_is_among (fun _ => rfl) (fun cdv Ar outer s H E hr => ⟨_, (pss_one (ps_ret (pe_and (pe_callB call_isX (by rfl) T.isinstance (by decide +kernel) (pa_cons (pv 0) (pa_cons (pe_bltn (v := .ty "int") (by rfl) T.int (by decide +kernel) rfl) pa_nil))) (pe_and (pe_not (pe_callB call_isX (by rfl) T.isinstance (by decide +kernel) (pa_cons (pv 0) (pa_cons (pe_bltn (v := .ty "bool") (by rfl) T.bool (by decide +kernel) rfl) pa_nil)))) (pe_one (pe_chain op_le op_le (pv 1) (pv 0) (pv 2))))))), ?_⟩), hm, F.kp, hb⟩
  rintro ⟨x, lo, hi⟩ hx
  rcases x with _ | b | i | s | l | t | d
  case int =>
    refine run_ret (evd_eq (evd_and (a := true) (evr (evd_is (evr (evd_var rfl)) kt_int_int)) fun _ => evr (evd_and (a := true) (evr (evd_not (a := false) (evr (evd_is (evr (evd_var rfl)) kt_int_bool)))) fun _ => evr (evd_chain (p := fun i j => decide (i ≤ j)) (p' := fun i j => decide (i ≤ j)) (evr (evd_var rfl)) (evr (evd_var rfl)) (evr (evd_var rfl))))) rfl) rfl
  case bool =>
    exact run_ret (evd_eq (evd_and (a := true) (b := false) (evr (evd_is (evr (evd_var rfl)) kt_bool_int)) fun _ => evr (evd_and (a := false) (b := false) (evr (evd_not (a := true) (evr (evd_is (evr (evd_var rfl)) kt_bool_bool)))) fun h => nomatch h)) rfl) rfl
  case dict =>
    cases d with
    | nil => exact run_ret (evd_eq (evd_and (a := false) (b := false) (evr (evd_is (evr (evd_var rfl)) kt_dict_int)) fun h => nomatch h) rfl) rfl
    | cons p d => exact run_ret (evd_eq (evd_and (a := false) (b := false) (evr (evd_is (evr (evd_var rfl)) kt_list_int hx)) fun h => nomatch h) rfl) rfl
  case none => exact run_ret (evd_eq (evd_and (a := false) (b := false) (evr (evd_is (evr (evd_var rfl)) kt_NoneType_int)) fun h => nomatch h) rfl) rfl
  case str => exact run_ret (evd_eq (evd_and (a := false) (b := false) (evr (evd_is (evr (evd_var rfl)) kt_str_int)) fun h => nomatch h) rfl) rfl
  case list => exact run_ret (evd_eq (evd_and (a := false) (b := false) (evr (evd_is (evr (evd_var rfl)) kt_list_int)) fun h => nomatch h) rfl) rfl
  case tuple => exact run_ret (evd_eq (evd_and (a := false) (b := false) (evr (evd_is (evr (evd_var rfl)) kt_tuple_int)) fun h => nomatch h) rfl) rfl

/-! ### is_floor -/
abbrev s_is_floor : Stmt := top 12
theorem sc_is_floor : FnScope ["thing", "one"] ["thing"] (defScope s_is_floor) := ⟨rfl, rfl, rfl, by decide +kernel, rfl, by decide +kernel, by decide +kernel⟩
abbrev sp_is_floor (K : PySem.W.Frag) (mg : Str → Option Value) : Sp := spO K mg (fun x : PyData => noX x = true) (fun x => [x]) (fun x => .ok (.bool (isFloorD x)))

theorem c_is_floor (T : Txt w K mg A) (c_is_among : Cl P w K mg base "is_among" ["thing", "least", "most"] 1 (sp_is_among K mg)) (F : At K mg "is_floor" s_is_floor ["thing"]) : Cl P w K mg base "is_floor" ["thing"] 2 (sp_is_floor K mg) := by
  obtain ⟨f, fd, F, hm, hb⟩ := F.ex
  refine ⟨f, fd, okO F sc_is_floor (fun _ => rfl) (fun cdv Ar outer s H E hr => ⟨_, (pss_cons (ps_if (PW.pt (pw_or (pt_not (pt_val (pe_callB call_isX (by rfl) T.isinstance (by decide +kernel) (pa_cons (pv 0) (pa_cons (pe_bltn (v := .ty "tuple") (by rfl) T.tuple (by decide +kernel) rfl) pa_nil))))) (pw_or1 (pt_cmpR (op_neD hr.units) (pe_callB call_len_seq (by rfl) T.len (by decide +kernel) (pa_cons (pv 0) pa_nil)) pe_int (nomark _))))) (pss_one (ps_ret pe_bl)) pss_nil)
      (pss_one (ps_ret (pe_and (pe_callB (cr_all rfl) (by rfl) T.all (by decide +kernel) (pa_cons (pe_lc (own := [("one", 1)]) (g := gName 1) (tt := tYes) rfl sc_is_floor.nd (pi_tup (pv 0)) (blkOk_by (own := [("one", 1)]) (N := ["thing", "one"]) (sc := defScope s_is_floor) (by decide +kernel)) (fun _ _ _ _ _ => (pg_name (i := 1) sc_is_floor.nd rfl (Or.inl rfl))) (fun _ _ _ _ _ => pts_nil) (fun _ _ _ _ _ => (pe_c (E := E0) c_is_among (hr.mono (by decide)) (by rfl) passL (pa_cons (pv 1) (pa_cons pe_int (pa_cons (pe_co rfl T.c_MOST_SIDE) pa_nil)))))) pa_nil)) (pe_one (pe_cmpR (op_neD hr.units) (pv 0) (pe_tupF (pa_cons pe_int (pa_cons pe_int pa_nil))) (nomark _))))))), ?_⟩), hm, F.kp, hb⟩
  intro x hx
  rcases x with _ | b | i | s | l | t | d
  case tuple =>
    have hi : ∀ d ∈ t, isX d = false := noX_tup hx
    refine run_seq (run_if (b := !(decide (t.length = 2))) (evt_eq (evt_or (a := false) (evt_not (a := true) (evt_B (evr (evd_is (evr (evd_var rfl)) kt_tuple_tuple)))) fun _ => evt_test (evr (evd_neD (evr (evd_lenT (evr (evd_var rfl)))) (evr evd_int) rfl rfl))) (by rw [Bool.false_or, eqv_int, eq_len2])) (fun h => ?_) (fun h => ?_))
    · refine run_ret evd_bl ?_
      show Oc.ok (.bool (isFloorD (.tuple t))) = _
      rw [isFloorD_len (by simpa using h)]
    · have h2 : t.length = 2 := by simpa using h
      refine run_next ?_
      refine run_ret (evd_eq (evd_and (a := t.all fun x => amongD x 1 4) (b := !PyData.eqv (.tuple t) (.tuple [.int 1, .int 1])) ?_ fun ha => ?_) ?_) rfl
      · refine evr (evd_eq (evd_all (bs := t.map fun x => amongD x 1 4) (evl_o (evo_eq (evo_mapT' (fun x => .bool (amongD x 1 4)) (evd_var rfl) rfl rfl (by rw [h2]; decide) fun x hx' => evd_call (x, 1, 4) (eva_cons (evd_var rfl) (eva_cons evd_int (eva_cons (evd_con fun _ => .int 4) eva_nil))) (hi x hx') rfl) (by rw [List.map_map]; rfl)))) (by rw [List.all_map]; rfl))
      · obtain ⟨a, b, rfl⟩ := two_of h2
        obtain ⟨i, j, rfl, rfl⟩ := amongs2 ha
        exact evr (evd_neD (evr (evd_var rfl)) (evr (evd_tup (eva_cons evd_int (eva_cons evd_int eva_nil)) (lenOk rfl))) (okTup2 i j) (okTup2 1 1))
      · show PyData.bool _ = PyData.bool (isFloorD (.tuple t))
        rw [isFloorD_two h2]
  case dict =>
    have hx' : isX (.dict d) = false := noX_x hx
    refine run_seq (run_if (b := true) (evt_eq (evt_or (a := true) (b := false) (evt_not (a := false) (evt_B (evr (evd_is (evr (evd_var rfl)) (kt_dict_tuple' d) hx')))) fun h => nomatch h) rfl) (fun h => run_ret evd_bl rfl) (fun h => nomatch h))
  case none => exact run_seq (run_if (b := true) (evt_eq (evt_or (a := true) (b := false) (evt_not (a := false) (evt_B (evr (evd_is (evr (evd_var rfl)) kt_NoneType_tuple)))) fun h => nomatch h) rfl) (fun h => run_ret evd_bl rfl) (fun h => nomatch h))
  case bool => exact run_seq (run_if (b := true) (evt_eq (evt_or (a := true) (b := false) (evt_not (a := false) (evt_B (evr (evd_is (evr (evd_var rfl)) kt_bool_tuple)))) fun h => nomatch h) rfl) (fun h => run_ret evd_bl rfl) (fun h => nomatch h))
  case int => exact run_seq (run_if (b := true) (evt_eq (evt_or (a := true) (b := false) (evt_not (a := false) (evt_B (evr (evd_is (evr (evd_var rfl)) kt_int_tuple)))) fun h => nomatch h) rfl) (fun h => run_ret evd_bl rfl) (fun h => nomatch h))
  case str => exact run_seq (run_if (b := true) (evt_eq (evt_or (a := true) (b := false) (evt_not (a := false) (evt_B (evr (evd_is (evr (evd_var rfl)) kt_str_tuple)))) fun h => nomatch h) rfl) (fun h => run_ret evd_bl rfl) (fun h => nomatch h))
  case list => exact run_seq (run_if (b := true) (evt_eq (evt_or (a := true) (b := false) (evt_not (a := false) (evt_B (evr (evd_is (evr (evd_var rfl)) kt_list_tuple)))) fun h => nomatch h) rfl) (fun h => run_ret evd_bl rfl) (fun h => nomatch h))

/-! ### need_floor -/
abbrev s_need_floor : Stmt := top 13
theorem sc_need_floor : FnScope ["floor"] ["floor"] (defScope s_need_floor) := ⟨rfl, rfl, rfl, by decide +kernel, rfl, by decide +kernel, by decide +kernel⟩
abbrev sp_need_floor (K : PySem.W.Frag) (mg : Str → Option Value) : Sp := spO K mg (fun x : PyData => noX x = true) (fun x => [x]) (fun x => if isFloorD x = true then .ok .none else .ex "BadFloor")

theorem c_need_floor (T : Txt w K mg A) (c_is_floor : Cl P w K mg base "is_floor" ["thing"] 2 (sp_is_floor K mg)) (F : At K mg "need_floor" s_need_floor ["floor"]) : Cl P w K mg base "need_floor" ["floor"] 3 (sp_need_floor K mg) := by
  obtain ⟨f, fd, F, hm, hb⟩ := F.ex
  refine ⟨f, fd, okO F sc_need_floor (fun _ => rfl) (fun cdv Ar outer s H E hr => ⟨_, (pss_one (ps_if (pt_not (pt_val (pe_c (E := E0) c_is_floor (hr.mono (by decide)) (by rfl) passL (pa_cons (pv 0) pa_nil)))) (pss_one (ps_rz T.x_BadFloor rfl (takes_of rfl rfl rfl rfl) (by rfl))) pss_nil)), ?_⟩), hm, F.kp, hb⟩
  intro x hx
  refine run_if (b := !isFloorD x) (evt_not (evt_B (evr (evd_call x (eva_cons (evd_var rfl) eva_nil) hx rfl)))) (fun h => ?_) (fun h => ?_)
  · have h' : isFloorD x = false := by simpa using h
    refine run_rz ?_ T.x_BadFloor.g
    show (if isFloorD x = true then Oc.ok .none else .ex "BadFloor") = .ex "BadFloor"
    rw [if_neg (by rw [h']; decide)]
  · have h' : isFloorD x = true := by simpa using h
    refine run_next ?_
    show (if isFloorD x = true then Oc.ok .none else .ex "BadFloor") = .ok .none
    rw [if_pos h']

/-! ### is_standing -/
abbrev s_is_standing : Stmt := top 14
theorem sc_is_standing : FnScope ["floor", "thing", "many", "one"] ["floor", "thing"] (defScope s_is_standing) := ⟨rfl, rfl, rfl, by decide +kernel, rfl, by decide +kernel, by decide +kernel⟩
abbrev sp_is_standing (K : PySem.W.Frag) (mg : Str → Option Value) : Sp := spO K mg (fun x : Nat × Nat × PyData => Fl x.1 x.2.1 ∧ noX x.2.2 = true) (fun x => [fl x.1 x.2.1, x.2.2]) (fun x => .ok (.bool (stD ((x.1 * x.2.1 : Nat) : Int) x.2.2)))

theorem c_is_standing (T : Txt w K mg A) (c_is_among : Cl P w K mg base "is_among" ["thing", "least", "most"] 1 (sp_is_among K mg)) (F : At K mg "is_standing" s_is_standing ["floor", "thing"]) : Cl P w K mg base "is_standing" ["floor", "thing"] 2 (sp_is_standing K mg) := by
  obtain ⟨f, fd, F, hm, hb⟩ := F.ex
  refine ⟨f, fd, okO F sc_is_standing (fun _ => rfl) (fun cdv Ar outer s H E hr => ⟨_, (pss_cons (ps_set (i := 2) sc_is_standing.nd rfl (Or.inr rfl) (pe_op op_mul (pe_ix ix_tup (pv 0) pe_int (fun _ _ => rfl)) (pe_ix ix_tup (pv 0) pe_int (fun _ _ => rfl))))
      (pss_cons (ps_if (PW.pt (pw_or (pt_not (pt_val (pe_callB call_isX (by rfl) T.isinstance (by decide +kernel) (pa_cons (pv 1) (pa_cons (pe_bltn (v := .ty "tuple") (by rfl) T.tuple (by decide +kernel) rfl) pa_nil))))) (pw_or1 (pt_cmpR (op_neD hr.units) (pe_callB call_len_seq (by rfl) T.len (by decide +kernel) (pa_cons (pv 1) pa_nil)) (pv 2) (nomark _))))) (pss_one (ps_ret pe_bl)) pss_nil)
      (pss_cons (ps_if (pt_not (pt_val (pe_callB (cr_all rfl) (by rfl) T.all (by decide +kernel) (pa_cons (pe_lc (own := [("one", 3)]) (g := gName 3) (tt := tYes) rfl sc_is_standing.nd (pi_tup (pv 1)) (blkOk_by (own := [("one", 3)]) (N := ["floor", "thing", "many", "one"]) (sc := defScope s_is_standing) (by decide +kernel)) (fun _ _ _ _ _ => (pg_name (i := 3) sc_is_standing.nd rfl (Or.inl rfl))) (fun _ _ _ _ _ => pts_nil) (fun _ _ _ _ _ => (pe_c (E := E0) c_is_among (hr.mono (by decide)) (by rfl) passL (pa_cons (pv 3) (pa_cons pe_int (pa_cons (pe_op op_sub (pv 2) pe_int) pa_nil)))))) pa_nil)))) (pss_one (ps_ret pe_bl)) pss_nil)
      (pss_one (ps_ret (pe_cmpR (op_eqD hr.units) (pe_callB (cr_sortD hr.units) (by rfl) T.sorted (by decide +kernel) (pa_cons (pv 1) pa_nil)) (pe_listRg rfl (by rfl) T.list (prg_1 (by rfl) T.range (pv 2))) (nomark _))))))), ?_⟩), hm, F.kp, hb⟩
  rintro ⟨wd, hg, x⟩ ⟨f, hx⟩
  have hX : isX x = false := noX_x hx
  have f4 := f.w4
  have f16 : wd * hg ≤ 16 := f.m16
  refine run_seq (run_set (evd_eq (evd_mul (evr (evd_ixT (evd_var rfl) (evr evd_int) rfl rfl)) (evr (evd_ixT (evd_var rfl) (evr evd_int) rfl rfl)) (f.cm _)) (d' := .int ((wd * hg : Nat) : Int)) rfl) ?_)
  cases ht : isTup x with
  | false =>
    refine run_seq (run_if (b := true) (evt_eq (evt_or (a := true) (b := false) (evt_not (a := false) (evt_B (evr (evd_is (evr (evd_var rfl)) (ht ▸ kt_tup x) hX)))) fun h => nomatch h) rfl) (fun h => ?_) (fun h => nomatch h))
    refine run_ret evd_bl ?_
    show Oc.ok (.bool (stD _ x)) = _
    rw [isTup_no ht]
  | true =>
    obtain ⟨t, rfl⟩ := isTup_yes ht
    have hi : ∀ d ∈ t, isX d = false := noX_tup hx
    refine run_seq (run_if (b := !decide ((t.length : Int) = ((wd * hg : Nat) : Int))) (evt_eq (evt_or (a := false) (evt_not (a := true) (evt_B (evr (evd_is (evr (evd_var rfl)) kt_tuple_tuple)))) fun _ => evt_test (evr (evd_neD (evr (evd_lenT (evr (evd_var rfl)))) (evr (evd_var rfl)) rfl rfl))) (by rw [Bool.false_or, eqv_int]; rfl)) (fun h => ?_) (fun h => ?_))
    · refine run_ret evd_bl ?_
      show Oc.ok (.bool (stD _ (.tuple t))) = _
      have h' : decide ((t.length : Int) = ((wd * hg : Nat) : Int)) = false := by simpa using h
      rw [stD_tup, h']; rfl
    · have h' : decide ((t.length : Int) = ((wd * hg : Nat) : Int)) = true := by simpa using h
      have hl : t.length = wd * hg := Int.ofNat_inj.mp (of_decide_eq_true h')
      refine run_next (run_seq (run_if (b := !(t.all fun x => amongD x 0 (((wd * hg : Nat) : Int) - 1))) (evt_not (evt_B (evr (evd_eq (evd_all (bs := t.map fun x => amongD x 0 (((wd * hg : Nat) : Int) - 1)) (evl_o (evo_eq (evo_mapT' (fun x => .bool (amongD x 0 (((wd * hg : Nat) : Int) - 1))) (evd_var rfl) rfl rfl (by omega) fun x hx' => evd_call (x, 0, ((wd * hg : Nat) : Int) - 1) (eva_cons (evd_var rfl) (eva_cons evd_int (eva_cons (evd_sub (evr (evd_var rfl)) (evr evd_int)) eva_nil))) (hi x hx') rfl) (by rw [List.map_map]; rfl)))) (by rw [List.all_map]; rfl))))) (fun h => ?_) (fun h => ?_)))
      · refine run_ret evd_bl ?_
        show Oc.ok (.bool (stD _ (.tuple t))) = _
        have h2 : (t.all fun x => amongD x 0 (((wd * hg : Nat) : Int) - 1)) = false := by rw [Bool.not_eq_true'] at h; exact h
        rw [stD_tup, h', h2]; rfl
      · have h2 : (t.all fun x => amongD x 0 (((wd * hg : Nat) : Int) - 1)) = true := by rw [Bool.not_eq_false'] at h; exact h
        obtain ⟨ns, rfl, _⟩ := ints_of h2
        refine run_next (run_ret (evd_eqD (evr_l (evl_o (evo_sortT (evd_var rfl) (srt_ints ns)))) (evr_l (evl_o (evo_listRg1 (evr (evd_var rfl)) ?_))) ?_ ?_) ?_)
        · refine ⟨by decide, by decide, by omega, by omega, by omega⟩
        · rw [srtD_ints]; exact okIntsL _
        · rw [rgD_rg]; exact okIntsL _
        · show Oc.ok (.bool (stD _ (.tuple _))) = _
          rw [stD_tup, h', h2, Bool.true_and, Bool.true_and]

/-! ### need_standing -/
abbrev s_need_standing : Stmt := top 15
theorem sc_need_standing : FnScope ["floor", "standing"] ["floor", "standing"] (defScope s_need_standing) := ⟨rfl, rfl, rfl, by decide +kernel, rfl, by decide +kernel, by decide +kernel⟩
abbrev sp_need_standing (K : PySem.W.Frag) (mg : Str → Option Value) : Sp := spO K mg (fun x : PyData × PyData => noX x.1 = true ∧ noX x.2 = true) (fun x => [x.1, x.2]) (fun x => if isFloorD x.1 = true then (if stD (areaN x.1 : Nat) x.2 = true then .ok .none else .ex "BadStanding") else .ex "BadFloor")

theorem c_need_standing (T : Txt w K mg A) (c_need_floor : Cl P w K mg base "need_floor" ["floor"] 3 (sp_need_floor K mg)) (c_is_standing : Cl P w K mg base "is_standing" ["floor", "thing"] 2 (sp_is_standing K mg)) (F : At K mg "need_standing" s_need_standing ["floor", "standing"]) : Cl P w K mg base "need_standing" ["floor", "standing"] 4 (sp_need_standing K mg) := by
  obtain ⟨f, fd, F, hm, hb⟩ := F.ex
  refine ⟨f, fd, okO F sc_need_standing (fun _ => rfl) (fun cdv Ar outer s H E hr => ⟨_, (pss_cons (ps_expr (pe_c (E := E) c_need_floor (hr.mono (by decide)) (by rfl) (passes_call (takes_of rfl rfl rfl rfl) (fun _ _ _ _ z => z)) (pa_cons (pv 0) pa_nil)))
      (pss_one (ps_if (pt_not (pt_val (pe_c (E := E0) c_is_standing (hr.mono (by decide)) (by rfl) passL (pa_cons (pv 0) (pa_cons (pv 1) pa_nil))))) (pss_one (ps_rz T.x_BadStanding rfl (takes_of rfl rfl rfl rfl) (by rfl))) pss_nil))), ?_⟩), hm, F.kp, hb⟩
  rintro ⟨x, y⟩ ⟨hx, hy⟩
  cases hf : isFloorD x with
  | false =>
    exact run_seq (run_dropX (evx_call x (eva_cons (evd_var rfl) eva_nil) hx (by rw [hf]; rfl)) rfl)
  | true =>
    refine run_seq (run_drop (evr (evd_call x (eva_cons (evd_var rfl) eva_nil) hx (by rw [hf]; rfl))) ?_)
    obtain ⟨wd, hg, f, rfl⟩ := floor_of hf
    refine run_if (b := !stD ((wd * hg : Nat) : Int) y) (evt_not (evt_B (evr (evd_call (wd, hg, y) (eva_cons (evd_var rfl) (eva_cons (evd_var rfl) eva_nil)) ⟨f, hy⟩ rfl)))) (fun h => ?_) (fun h => ?_)
    · have h' : stD ((wd * hg : Nat) : Int) y = false := by simpa using h
      refine run_rz ?_ T.x_BadStanding.g
      show (if true = true then (if stD ((wd * hg : Nat) : Int) y = true then Oc.ok .none else Oc.ex "BadStanding") else Oc.ex "BadFloor") = Oc.ex "BadStanding"
      rw [if_pos rfl, h']; rfl
    · have h' : stD ((wd * hg : Nat) : Int) y = true := by simpa using h
      refine run_next ?_
      show (if true = true then (if stD ((wd * hg : Nat) : Int) y = true then Oc.ok .none else Oc.ex "BadStanding") else Oc.ex "BadFloor") = Oc.ok .none
      rw [if_pos rfl, h']; rfl

/-! ### place_beside -/
abbrev s_place_beside : Stmt := top 19
theorem sc_place_beside : FnScope ["floor", "empty", "word", "x", "y"] ["floor", "empty", "word"] (defScope s_place_beside) := ⟨rfl, rfl, rfl, by decide +kernel, rfl, by decide +kernel, by decide +kernel⟩
abbrev sp_place_beside (K : PySem.W.Frag) (mg : Str → Option Value) : Sp := spO K mg (fun x : Nat × Nat × Nat × Dr => Fl x.1 x.2.1 ∧ x.2.2.1 < x.1 * x.2.1) (fun x => [fl x.1 x.2.1, .int x.2.2.1, .str x.2.2.2.s]) (fun x => .ok (optD (pb x.1 x.2.1 x.2.2.1 x.2.2.2)))

theorem c_place_beside (T : Txt w K mg A) (F : At K mg "place_beside" s_place_beside ["floor", "empty", "word"]) : Cl P w K mg base "place_beside" ["floor", "empty", "word"] 1 (sp_place_beside K mg) := by
  obtain ⟨f, fd, F, hm, hb⟩ := F.ex
  refine ⟨f, fd, okO F sc_place_beside (fun _ => rfl) (fun cdv Ar outer s H E hr => ⟨_, (pss_cons (ps_set (i := 3) sc_place_beside.nd rfl (Or.inl rfl) (pe_op op_add (pe_op op_mod (pv 1) (pe_ix ix_tup (pv 0) pe_int (fun _ _ => rfl))) (pe_ix ix_tup (pe_ix ix_kdict (pe_co rfl T.c_FROM) (pv 2) (fun _ _ => rfl)) pe_int (fun _ _ => rfl))))
      (pss_cons (ps_set (i := 4) sc_place_beside.nd rfl (Or.inl rfl) (pe_op op_add (pe_op op_fdiv (pv 1) (pe_ix ix_tup (pv 0) pe_int (fun _ _ => rfl))) (pe_ix ix_tup (pe_ix ix_kdict (pe_co rfl T.c_FROM) (pv 2) (fun _ _ => rfl)) pe_int (fun _ _ => rfl))))
      (pss_cons (ps_if (PW.pt (pw_or (pt_not (pt_chain op_le op_lt pe_int (pv 3) (pe_ix ix_tup (pv 0) pe_int (fun _ _ => rfl)))) (pw_or1 (pt_not (pt_chain op_le op_lt pe_int (pv 4) (pe_ix ix_tup (pv 0) pe_int (fun _ _ => rfl))))))) (pss_one (ps_ret pe_non)) pss_nil)
      (pss_one (ps_ret (pe_op op_add (pe_op op_mul (pv 4) (pe_ix ix_tup (pv 0) pe_int (fun _ _ => rfl))) (pv 3))))))), ?_⟩), hm, F.kp, hb⟩
  rintro ⟨wd, hg, e, d⟩ ⟨f, he⟩
  have f1 : 1 ≤ wd := f.w1
  have f4 : wd ≤ 4 := f.w4
  have he : e < wd * hg := he
  have wpos : (0 : Int) < (wd : Int) := by omega
  refine run_seq (run_set (evd_eq (evd_add (evr (evd_mod (evr (evd_var rfl)) (evr (evd_ixT (evd_var rfl) (evr evd_int) rfl rfl)) wpos)) (evr (evd_ixT (evd_kd T.d_FROM (evr (evd_var rfl)) (from_mem d)) (evr evd_int) rfl rfl))) (d' := .int (pbX wd e d)) rfl) ?_)
  refine run_seq (run_set (evd_eq (evd_add (evr (evd_fdiv (evr (evd_var rfl)) (evr (evd_ixT (evd_var rfl) (evr evd_int) rfl rfl)) ⟨wpos, show (wd : Int) < 1073741824 by omega⟩)) (evr (evd_ixT (n := 1) (evd_kd T.d_FROM (evr (evd_var rfl)) (from_mem d)) (evr evd_int) rfl rfl))) (d' := .int (pbY wd e d)) rfl) ?_)
  refine run_seq (run_if (b := !pbOk wd hg e d) (evt_eq (evt_or (evt_not (evt_test (evr (evd_chain (p := fun i j => decide (i ≤ j)) (p' := fun i j => decide (i < j)) (evr evd_int) (evr (evd_var rfl)) (evr (evd_ixT (evd_var rfl) (evr evd_int) rfl rfl)))))) fun _ => evt_not (evt_test (evr (evd_chain (p := fun i j => decide (i ≤ j)) (p' := fun i j => decide (i < j)) (evr evd_int) (evr (evd_var rfl)) (evr (evd_ixT (n := 1) (evd_var rfl) (evr evd_int) rfl rfl)))))) ?_) (fun h => ?_) (fun h => ?_))
  · exact (Bool.not_and _ _).symm
  · refine run_ret evd_non ?_
    have hk : pbOk wd hg e d = false := by rw [Bool.not_eq_true'] at h; exact h
    show Oc.ok (optD (pb wd hg e d)) = _
    rw [pb_no hk]; rfl
  · have hk : pbOk wd hg e d = true := by rw [Bool.not_eq_false'] at h; exact h
    refine run_next (run_ret (evd_add (evr (evd_mul (evr (evd_var rfl)) (evr (evd_ixT (evd_var rfl) (evr evd_int) rfl rfl)) (Or.inr ⟨show (-(2 ^ 64) : Int) < (wd : Int) by omega, show (wd : Int) < 2 ^ 64 by omega⟩))) (evr (evd_var rfl))) ?_)
    have hq := (f.pb he (pb_yes hk)).2.2
    show Oc.ok (optD (pb wd hg e d)) = Oc.ok (.int (pbY wd e d * (wd : Int) + pbX wd e d))
    rw [pb_yes hk, hq]; rfl

/-! ### words_at -/
abbrev s_words_at : Stmt := top 20
theorem sc_words_at : FnScope ["floor", "empty", "word"] ["floor", "empty"] (defScope s_words_at) := ⟨rfl, rfl, rfl, by decide +kernel, rfl, by decide +kernel, by decide +kernel⟩
abbrev sp_words_at (K : PySem.W.Frag) (mg : Str → Option Value) : Sp := spO K mg (fun x : Nat × Nat × Nat => Fl x.1 x.2.1 ∧ x.2.2 < x.1 * x.2.1) (fun x => [fl x.1 x.2.1, .int x.2.2]) (fun x => .own ((wdsAt x.1 x.2.1 x.2.2).map fun d => .str d.s))

theorem c_words_at (T : Txt w K mg A) (c_place_beside : Cl P w K mg base "place_beside" ["floor", "empty", "word"] 1 (sp_place_beside K mg)) (F : At K mg "words_at" s_words_at ["floor", "empty"]) : Cl P w K mg base "words_at" ["floor", "empty"] 2 (sp_words_at K mg) := by
  obtain ⟨f, fd, F, hm, hb⟩ := F.ex
  refine ⟨f, fd, okO F sc_words_at (fun _ => rfl) (fun cdv Ar outer s H E hr => ⟨_, (pss_one (ps_ret (pe_lc (own := [("word", 2)]) (g := gName 2)  rfl sc_words_at.nd (pi_tup (pe_co rfl T.c_WORDS)) (blkOk_by (own := [("word", 2)]) (N := ["floor", "empty", "word"]) (sc := defScope s_words_at) (by decide +kernel)) (fun _ _ _ _ _ => (pg_name (i := 2) sc_words_at.nd rfl (Or.inl rfl))) (fun _ _ _ _ _ => pts_one (pt_cmpR op_notN (pe_c (E := E0) c_place_beside (hr.mono (by decide)) (by rfl) passL (pa_cons (pv 0) (pa_cons (pv 1) (pa_cons (pv 2) pa_nil)))) pe_non (nomark _))) (fun _ _ _ _ _ => (pv 2))))), ?_⟩), hm, F.kp, hb⟩
  rintro ⟨wd, hg, e⟩ ⟨f, he⟩
  exact run_retO (evo_lcT (xs := drs) (g := fun d => .str d.s) (fun d => (pb wd hg e d).isSome) (fun d => .str d.s) (evd_con T.t_WORDS) rfl rfl (by decide) (fun d _ => evt_eq (evt_test (evr (evd_notN (evr (evd_call (wd, hg, e, d) (eva_cons (evd_var rfl) (eva_cons (evd_var rfl) (eva_cons (evd_var rfl) eva_nil))) ⟨f, he⟩ rfl))))) (isNone_optD _)) fun d _ _ => evd_var rfl) rfl

/-! ### moves -/
abbrev s_moves : Stmt := top 23
theorem sc_moves : FnScope ["floor", "standing"] ["floor", "standing"] (defScope s_moves) := ⟨rfl, rfl, rfl, by decide +kernel, rfl, by decide +kernel, by decide +kernel⟩
abbrev sp_moves (K : PySem.W.Frag) (mg : Str → Option Value) : Sp := spO K mg (fun x : PyData × PyData => noX x.1 = true ∧ noX x.2 = true) (fun x => [x.1, x.2]) (fun x => if isFloorD x.1 = true then (if stD (areaN x.1 : Nat) x.2 = true then .own ((wdsAt (fwN x.1) (fhN x.1) ((intsOf x.2).idxOf 0)).map fun d => .str d.s) else .ex "BadStanding") else .ex "BadFloor")

theorem c_moves (T : Txt w K mg A) (c_need_standing : Cl P w K mg base "need_standing" ["floor", "standing"] 4 (sp_need_standing K mg)) (c_words_at : Cl P w K mg base "words_at" ["floor", "empty"] 2 (sp_words_at K mg)) (F : At K mg "moves" s_moves ["floor", "standing"]) : Cl P w K mg base "moves" ["floor", "standing"] 5 (sp_moves K mg) := by
  obtain ⟨f, fd, F, hm, hb⟩ := F.ex
  refine ⟨f, fd, okO F sc_moves (fun _ => rfl) (fun cdv Ar outer s H E hr => ⟨_, (pss_cons (ps_expr (pe_c (E := E) c_need_standing (hr.mono (by decide)) (by rfl) (passes_call (takes_of rfl rfl rfl rfl) (fun _ _ _ _ z => z)) (pa_cons (pv 0) (pa_cons (pv 1) pa_nil))))
      (pss_one (ps_ret (pe_c (E := E0) c_words_at (hr.mono (by decide)) (by rfl) passL (pa_cons (pv 0) (pa_cons (pe_bt PySem.F.slot_tuple_index PySem.F.type_tuple_index mt_tupIx (pv 1) (pa_cons pe_int pa_nil)) pa_nil)))))), ?_⟩), hm, F.kp, hb⟩
  rintro ⟨x, y⟩ ⟨hx, hy⟩
  cases hf : isFloorD x with
  | false => exact run_seq (run_dropX (evx_call (x, y) (eva_cons (evd_var rfl) (eva_cons (evd_var rfl) eva_nil)) ⟨hx, hy⟩ (by show (if isFloorD x = true then _ else Oc.ex "BadFloor") = _; rw [hf]; rfl)) rfl)
  | true =>
    obtain ⟨wd, hg, f, rfl⟩ := floor_of hf
    cases hs : stD (areaN (fl wd hg) : Nat) y with
    | false => exact run_seq (run_dropX (evx_call (fl wd hg, y) (eva_cons (evd_var rfl) (eva_cons (evd_var rfl) eva_nil)) ⟨hx, hy⟩ (by show (if isFloorD (fl wd hg) = true then (if stD (areaN (fl wd hg) : Nat) y = true then _ else Oc.ex "BadStanding") else Oc.ex "BadFloor") = _; rw [hf, hs]; rfl)) rfl)
    | true =>
      obtain ⟨ns, rfl, hp⟩ := stD_iff.mp hs
      have hp : ns.Perm (rg (wd * hg)) := hp
      have f2 := f.m2
      have hi := idx_lt hp (show 0 < wd * hg by omega)
      refine run_seq (run_drop (evr (evd_call (fl wd hg, iT ns) (eva_cons (evd_var rfl) (eva_cons (evd_var rfl) eva_nil)) ⟨hx, hy⟩ ((if_pos hf).trans (if_pos hs)))) ?_)
      refine run_retO (evo_call (wd, hg, ns.idxOf 0) (eva_cons (evd_var rfl) (eva_cons (evd_index (ns := ns) (evd_var rfl) (evr evd_int) (zero_mem hp (show 0 < wd * hg by omega))) eva_nil)) ⟨f, hi⟩ rfl) ?_
      show (if true = true then (if true = true then Oc.own ((wdsAt wd hg ((intsOf (iT ns)).idxOf 0)).map fun d => .str d.s) else _) else _) = _
      rw [if_pos rfl, if_pos rfl, intsOf_iT]

/-! ### _law_word -/
abbrev s_law_word : Stmt := top 27
theorem sc_law_word : FnScope ["_law_e", "_law_some", "_law_found", "_law_word_here", "_law_is_so"] ["_law_e"] (defScope s_law_word) := ⟨rfl, rfl, rfl, by decide +kernel, rfl, by decide +kernel, by decide +kernel⟩
def isWord (c wd : Str) : Prop := (c = "BadFloor" ∧ wd = "floor") ∨ (c = "BadStanding" ∧ wd = "standing") ∨ (c = "BadMove" ∧ wd = "move")
abbrev sp_law_word (K : PySem.W.Frag) (mg : Str → Option Value) : Sp := spO K mg (fun x : Option (Str × Str) × Addr => match x.1 with | none => True | some c => isWord c.1 c.2 ∧ mg c.1 = some (.ref x.2)) (fun x => [match x.1 with | none => .none | some _ => excD x.2]) (fun x => .own (match x.1 with | none => [] | some c => [.str c.2]))

theorem c_law_word (T : Txt w K mg A) (F : At K mg "_law_word" s_law_word ["_law_e"]) : Cl P w K mg base "_law_word" ["_law_e"] 1 (sp_law_word K mg) := by
  obtain ⟨f, fd, F, hm, hb⟩ := F.ex
  refine ⟨f, fd, okO F sc_law_word (fun _ => rfl) (fun cdv Ar outer s H E hr => ⟨_, (pss_cons (ps_set (i := 1) sc_law_word.nd rfl (Or.inl rfl) (pe_lst (pa_cons (pe_tupF (pa_cons pe_str (pa_cons (pe_callB call_isX (by rfl) T.isinstance (by decide +kernel) (pa_cons (pv 0) (pa_cons (pe_cls rfl T.x_BadFloor) pa_nil))) pa_nil))) (pa_cons (pe_tupF (pa_cons pe_str (pa_cons (pe_callB call_isX (by rfl) T.isinstance (by decide +kernel) (pa_cons (pv 0) (pa_cons (pe_cls rfl T.x_BadStanding) pa_nil))) pa_nil))) pa_nil))))
      (pss_cons (ps_set (i := 1) sc_law_word.nd rfl (Or.inl rfl) (pe_op op_cat (pv 1) (pe_lst (pa_cons (pe_tupF (pa_cons pe_str (pa_cons (pe_callB call_isX (by rfl) T.isinstance (by decide +kernel) (pa_cons (pv 0) (pa_cons (pe_cls rfl T.x_BadMove) pa_nil))) pa_nil))) (pa_cons (pe_tupF (pa_cons pe_str (pa_cons (pe_callB call_isX (by rfl) T.isinstance (by decide +kernel) (pa_cons (pv 0) (pa_cons (pe_cls rfl T.x_BadNumber) pa_nil))) pa_nil))) pa_nil)))))
      (pss_cons (ps_set (i := 1) sc_law_word.nd rfl (Or.inl rfl) (pe_op op_cat (pv 1) (pe_lst (pa_cons (pe_tupF (pa_cons pe_str (pa_cons (pe_callB call_isX (by rfl) T.isinstance (by decide +kernel) (pa_cons (pv 0) (pa_cons (pe_cls rfl T.x_BadText) pa_nil))) pa_nil))) (pa_cons (pe_tupF (pa_cons pe_str (pa_cons (pe_callB call_isX (by rfl) T.isinstance (by decide +kernel) (pa_cons (pv 0) (pa_cons (pe_cls rfl T.x_TooMany) pa_nil))) pa_nil))) pa_nil)))))
      (pss_cons (ps_expr (pe_bm PySem.F.plainAttrs_list PySem.F.slot_list_append PySem.F.type_list_append mt_append (pv 1) (pa_cons (pe_tupF (pa_cons pe_str (pa_cons (pe_callB call_isX (by rfl) T.isinstance (by decide +kernel) (pa_cons (pv 0) (pa_cons (pe_cls rfl T.x_NothingDone) pa_nil))) pa_nil))) pa_nil)))
      (pss_cons (ps_setLc (own := [("_law_word_here", 3), ("_law_is_so", 4)]) (g := gTup K 2 (gCons (gName 3) (gCons (gName 4) gNil)))  (i := 2) rfl sc_law_word.nd rfl rfl (sw_true rfl rfl rfl (by decide +kernel)) (pi_list (pv 1)) (blkOk_by (own := [("_law_word_here", 3), ("_law_is_so", 4)]) (N := ["_law_e", "_law_some", "_law_found", "_law_word_here", "_law_is_so"]) (sc := defScope s_law_word) (by decide +kernel)) (fun _ _ _ _ _ => (pg_tup (by rfl) (pgs_cons (pg_name (i := 3) sc_law_word.nd rfl (Or.inl rfl)) (pgs_cons (pg_name (i := 4) sc_law_word.nd rfl (Or.inl rfl)) pgs_nil)))) (fun _ _ _ _ _ => pts_one (pt_val (pv 4))) (fun _ _ _ _ _ => (pv 3)))
      (pss_one (ps_ret (pe_op op_cat (pv 2) (pe_op op_rep (pe_lst (pa_cons pe_str pa_nil)) (pe_callTy call_int1 (by rfl) T.int (by decide +kernel) (pa_cons (pe_and (pe_cmpR op_notN (pv 0) pe_non (nomark _)) (pe_one (pe_or (pe_not (pe_callB call_isX (by rfl) T.isinstance (by decide +kernel) (pa_cons (pv 0) (pa_cons (pe_cls rfl T.x_SlideError) pa_nil)))) (pe_one (pe_not (pe_callB call_isX (by rfl) T.isinstance (by decide +kernel) (pa_cons (pv 0) (pa_cons (pe_bltn (v := .ty "ValueError") (by rfl) T.ValueError (by decide +kernel) rfl) pa_nil)))))))) pa_nil))))))))))), ?_⟩), hm, F.kp, hb⟩
  rintro ⟨x, C⟩ hx
  rcases x with _ | ⟨c, wd⟩
  · refine run_seq (run_setO (evo_lst (eva_cons (evd_tup (eva_cons evd_str (eva_cons (evd_isC (evr (evd_var rfl)) T.n_BadFloor) eva_nil)) (lenOk rfl)) (eva_cons (evd_tup (eva_cons evd_str (eva_cons (evd_isC (evr (evd_var rfl)) T.n_BadStanding) eva_nil)) (lenOk rfl)) eva_nil)) (by decide)) fun a1 => ?_)
    refine run_seq (run_setO (evo_cat (evl_var rfl) (evl_o (evo_lst (eva_cons (evd_tup (eva_cons evd_str (eva_cons (evd_isC (evr (evd_var rfl)) T.n_BadMove) eva_nil)) (lenOk rfl)) (eva_cons (evd_tup (eva_cons evd_str (eva_cons (evd_isC (evr (evd_var rfl)) T.n_BadNumber) eva_nil)) (lenOk rfl)) eva_nil)) (by decide))) (by decide)) fun a2 => ?_)
    refine run_seq (run_setO (evo_cat (evl_var rfl) (evl_o (evo_lst (eva_cons (evd_tup (eva_cons evd_str (eva_cons (evd_isC (evr (evd_var rfl)) T.n_BadText) eva_nil)) (lenOk rfl)) (eva_cons (evd_tup (eva_cons evd_str (eva_cons (evd_isC (evr (evd_var rfl)) T.n_TooMany) eva_nil)) (lenOk rfl)) eva_nil)) (by decide))) (by decide)) fun a3 => ?_)
    refine run_seq (run_app rfl (evd_tup (eva_cons evd_str (eva_cons (evd_isC (evr (evd_var rfl)) T.n_NothingDone) eva_nil)) (by decide)) (by decide) ?_)
    refine run_seq (run_setO (evo_lcL2 (xs := [(("floor" : Str), false), (("standing" : Str), false), (("move" : Str), false), (("number" : Str), false), (("text" : Str), false), (("many" : Str), false), (("nothing" : Str), false)]) (g1 := fun x => .str x.1) (g2 := fun x => .bool x.2) (fun x => x.2) (fun x => .str x.1) (evl_var rfl) rfl rfl (by decide) (by decide) (fun x hx => evt_B (evr (evd_var rfl))) (fun x hx _ => evd_var rfl)) fun a4 => ?_)
    exact run_retO (evo_cat (evl_var rfl) (evl_o (evo_rep (evl_o (evo_lst (eva_cons evd_str eva_nil) (by decide))) (evr (evd_int1 (b := false) (evr (evd_and (a := false) (b := false) (evr (evd_eq (evd_notN (evr (evd_var rfl))) rfl)) fun h => nomatch h)))) (by decide) (by decide))) (by decide)) rfl
  · obtain ⟨hc, hg⟩ := hx
    have hc : isWord c wd := hc
    have hg : mg c = some (.ref C) := hg
    rcases hc with ⟨rfl, rfl⟩ | ⟨rfl, rfl⟩ | ⟨rfl, rfl⟩
    · have hC : C = A.BadFloor := by
        have := hg.symm.trans T.x_BadFloor.g
        cases this; rfl
      subst hC
      refine run_seq (run_setO (evo_lst (eva_cons (evd_tup (eva_cons evd_str (eva_cons (evd_isE (evr (evd_var rfl)) T.e_BadFloor T.k_BadFloor_BadFloor) eva_nil)) (lenOk rfl)) (eva_cons (evd_tup (eva_cons evd_str (eva_cons (evd_isE (evr (evd_var rfl)) T.e_BadFloor T.k_BadFloor_BadStanding) eva_nil)) (lenOk rfl)) eva_nil)) (by decide)) fun a1 => ?_)
      refine run_seq (run_setO (evo_cat (evl_var rfl) (evl_o (evo_lst (eva_cons (evd_tup (eva_cons evd_str (eva_cons (evd_isE (evr (evd_var rfl)) T.e_BadFloor T.k_BadFloor_BadMove) eva_nil)) (lenOk rfl)) (eva_cons (evd_tup (eva_cons evd_str (eva_cons (evd_isE (evr (evd_var rfl)) T.e_BadFloor T.k_BadFloor_BadNumber) eva_nil)) (lenOk rfl)) eva_nil)) (by decide))) (by decide)) fun a2 => ?_)
      refine run_seq (run_setO (evo_cat (evl_var rfl) (evl_o (evo_lst (eva_cons (evd_tup (eva_cons evd_str (eva_cons (evd_isE (evr (evd_var rfl)) T.e_BadFloor T.k_BadFloor_BadText) eva_nil)) (lenOk rfl)) (eva_cons (evd_tup (eva_cons evd_str (eva_cons (evd_isE (evr (evd_var rfl)) T.e_BadFloor T.k_BadFloor_TooMany) eva_nil)) (lenOk rfl)) eva_nil)) (by decide))) (by decide)) fun a3 => ?_)
      refine run_seq (run_app rfl (evd_tup (eva_cons evd_str (eva_cons (evd_isE (evr (evd_var rfl)) T.e_BadFloor T.k_BadFloor_NothingDone) eva_nil)) (by decide)) (by decide) ?_)
      refine run_seq (run_setO (evo_lcL2 (xs := [(("floor" : Str), true), (("standing" : Str), false), (("move" : Str), false), (("number" : Str), false), (("text" : Str), false), (("many" : Str), false), (("nothing" : Str), false)]) (g1 := fun x => .str x.1) (g2 := fun x => .bool x.2) (fun x => x.2) (fun x => .str x.1) (evl_var rfl) rfl rfl (by decide) (by decide) (fun x hx => evt_B (evr (evd_var rfl))) (fun x hx _ => evd_var rfl)) fun a4 => ?_)
      exact run_retO (evo_cat (evl_var rfl) (evl_o (evo_rep (evl_o (evo_lst (eva_cons evd_str eva_nil) (by decide))) (evr (evd_int1 (b := false) (evr (evd_and (a := true) (b := false) (evr (evd_eq (evd_notN (evr (evd_var rfl))) rfl)) fun _ => evr (evd_or (a := false) (b := false) (evr (evd_not (a := true) (evr (evd_isE (evr (evd_var rfl)) T.e_BadFloor T.k_BadFloor_SlideError)))) fun _ => evr (evd_not (a := true) (evr (evd_isEB (evr (evd_var rfl)) T.e_BadFloor T.k_BadFloor_ValueError)))))))) (by decide) (by decide))) (by decide)) rfl
    · have hC : C = A.BadStanding := by
        have := hg.symm.trans T.x_BadStanding.g
        cases this; rfl
      subst hC
      refine run_seq (run_setO (evo_lst (eva_cons (evd_tup (eva_cons evd_str (eva_cons (evd_isE (evr (evd_var rfl)) T.e_BadStanding T.k_BadStanding_BadFloor) eva_nil)) (lenOk rfl)) (eva_cons (evd_tup (eva_cons evd_str (eva_cons (evd_isE (evr (evd_var rfl)) T.e_BadStanding T.k_BadStanding_BadStanding) eva_nil)) (lenOk rfl)) eva_nil)) (by decide)) fun a1 => ?_)
      refine run_seq (run_setO (evo_cat (evl_var rfl) (evl_o (evo_lst (eva_cons (evd_tup (eva_cons evd_str (eva_cons (evd_isE (evr (evd_var rfl)) T.e_BadStanding T.k_BadStanding_BadMove) eva_nil)) (lenOk rfl)) (eva_cons (evd_tup (eva_cons evd_str (eva_cons (evd_isE (evr (evd_var rfl)) T.e_BadStanding T.k_BadStanding_BadNumber) eva_nil)) (lenOk rfl)) eva_nil)) (by decide))) (by decide)) fun a2 => ?_)
      refine run_seq (run_setO (evo_cat (evl_var rfl) (evl_o (evo_lst (eva_cons (evd_tup (eva_cons evd_str (eva_cons (evd_isE (evr (evd_var rfl)) T.e_BadStanding T.k_BadStanding_BadText) eva_nil)) (lenOk rfl)) (eva_cons (evd_tup (eva_cons evd_str (eva_cons (evd_isE (evr (evd_var rfl)) T.e_BadStanding T.k_BadStanding_TooMany) eva_nil)) (lenOk rfl)) eva_nil)) (by decide))) (by decide)) fun a3 => ?_)
      refine run_seq (run_app rfl (evd_tup (eva_cons evd_str (eva_cons (evd_isE (evr (evd_var rfl)) T.e_BadStanding T.k_BadStanding_NothingDone) eva_nil)) (by decide)) (by decide) ?_)
      refine run_seq (run_setO (evo_lcL2 (xs := [(("floor" : Str), false), (("standing" : Str), true), (("move" : Str), false), (("number" : Str), false), (("text" : Str), false), (("many" : Str), false), (("nothing" : Str), false)]) (g1 := fun x => .str x.1) (g2 := fun x => .bool x.2) (fun x => x.2) (fun x => .str x.1) (evl_var rfl) rfl rfl (by decide) (by decide) (fun x hx => evt_B (evr (evd_var rfl))) (fun x hx _ => evd_var rfl)) fun a4 => ?_)
      exact run_retO (evo_cat (evl_var rfl) (evl_o (evo_rep (evl_o (evo_lst (eva_cons evd_str eva_nil) (by decide))) (evr (evd_int1 (b := false) (evr (evd_and (a := true) (b := false) (evr (evd_eq (evd_notN (evr (evd_var rfl))) rfl)) fun _ => evr (evd_or (a := false) (b := false) (evr (evd_not (a := true) (evr (evd_isE (evr (evd_var rfl)) T.e_BadStanding T.k_BadStanding_SlideError)))) fun _ => evr (evd_not (a := true) (evr (evd_isEB (evr (evd_var rfl)) T.e_BadStanding T.k_BadStanding_ValueError)))))))) (by decide) (by decide))) (by decide)) rfl
    · have hC : C = A.BadMove := by
        have := hg.symm.trans T.x_BadMove.g
        cases this; rfl
      subst hC
      refine run_seq (run_setO (evo_lst (eva_cons (evd_tup (eva_cons evd_str (eva_cons (evd_isE (evr (evd_var rfl)) T.e_BadMove T.k_BadMove_BadFloor) eva_nil)) (lenOk rfl)) (eva_cons (evd_tup (eva_cons evd_str (eva_cons (evd_isE (evr (evd_var rfl)) T.e_BadMove T.k_BadMove_BadStanding) eva_nil)) (lenOk rfl)) eva_nil)) (by decide)) fun a1 => ?_)
      refine run_seq (run_setO (evo_cat (evl_var rfl) (evl_o (evo_lst (eva_cons (evd_tup (eva_cons evd_str (eva_cons (evd_isE (evr (evd_var rfl)) T.e_BadMove T.k_BadMove_BadMove) eva_nil)) (lenOk rfl)) (eva_cons (evd_tup (eva_cons evd_str (eva_cons (evd_isE (evr (evd_var rfl)) T.e_BadMove T.k_BadMove_BadNumber) eva_nil)) (lenOk rfl)) eva_nil)) (by decide))) (by decide)) fun a2 => ?_)
      refine run_seq (run_setO (evo_cat (evl_var rfl) (evl_o (evo_lst (eva_cons (evd_tup (eva_cons evd_str (eva_cons (evd_isE (evr (evd_var rfl)) T.e_BadMove T.k_BadMove_BadText) eva_nil)) (lenOk rfl)) (eva_cons (evd_tup (eva_cons evd_str (eva_cons (evd_isE (evr (evd_var rfl)) T.e_BadMove T.k_BadMove_TooMany) eva_nil)) (lenOk rfl)) eva_nil)) (by decide))) (by decide)) fun a3 => ?_)
      refine run_seq (run_app rfl (evd_tup (eva_cons evd_str (eva_cons (evd_isE (evr (evd_var rfl)) T.e_BadMove T.k_BadMove_NothingDone) eva_nil)) (by decide)) (by decide) ?_)
      refine run_seq (run_setO (evo_lcL2 (xs := [(("floor" : Str), false), (("standing" : Str), false), (("move" : Str), true), (("number" : Str), false), (("text" : Str), false), (("many" : Str), false), (("nothing" : Str), false)]) (g1 := fun x => .str x.1) (g2 := fun x => .bool x.2) (fun x => x.2) (fun x => .str x.1) (evl_var rfl) rfl rfl (by decide) (by decide) (fun x hx => evt_B (evr (evd_var rfl))) (fun x hx _ => evd_var rfl)) fun a4 => ?_)
      exact run_retO (evo_cat (evl_var rfl) (evl_o (evo_rep (evl_o (evo_lst (eva_cons evd_str eva_nil) (by decide))) (evr (evd_int1 (b := false) (evr (evd_and (a := true) (b := false) (evr (evd_eq (evd_notN (evr (evd_var rfl))) rfl)) fun _ => evr (evd_or (a := false) (b := false) (evr (evd_not (a := true) (evr (evd_isE (evr (evd_var rfl)) T.e_BadMove T.k_BadMove_SlideError)))) fun _ => evr (evd_not (a := true) (evr (evd_isEB (evr (evd_var rfl)) T.e_BadMove T.k_BadMove_ValueError)))))))) (by decide) (by decide))) (by decide)) rfl

/-! ### slid -/
abbrev s_slid : Stmt := top 21
theorem sc_slid : FnScope ["floor", "standing", "word", "empty", "place", "found"] ["floor", "standing", "word"] (defScope s_slid) := ⟨rfl, rfl, rfl, by decide +kernel, rfl, by decide +kernel, by decide +kernel⟩
abbrev sp_slid (K : PySem.W.Frag) (mg : Str → Option Value) : Sp := spO K mg (fun x : (Nat × Nat × List Int) × Dr × Nat => Fl x.1.1 x.1.2.1 ∧ x.1.2.2.Perm (rg (x.1.1 * x.1.2.1)) ∧ pb x.1.1 x.1.2.1 (x.1.2.2.idxOf 0) x.2.1 = some x.2.2) (fun x => [fl x.1.1 x.1.2.1, iT x.1.2.2, .str x.2.1.s]) (fun x => .ok (iT (slI x.1.2.2 (x.1.2.2.idxOf 0) x.2.2)))

theorem c_slid (T : Txt w K mg A) (c_place_beside : Cl P w K mg base "place_beside" ["floor", "empty", "word"] 1 (sp_place_beside K mg)) (F : At K mg "slid" s_slid ["floor", "standing", "word"]) : Cl P w K mg base "slid" ["floor", "standing", "word"] 2 (sp_slid K mg) := by
  obtain ⟨f, fd, F, hm, hb⟩ := F.ex
  refine ⟨f, fd, okO F sc_slid (fun _ => rfl) (fun cdv Ar outer s H E hr => ⟨_, (pss_cons (ps_set (i := 3) sc_slid.nd rfl (Or.inl rfl) (pe_bt PySem.F.slot_tuple_index PySem.F.type_tuple_index mt_tupIx (pv 1) (pa_cons pe_int pa_nil)))
      (pss_cons (ps_set (i := 4) sc_slid.nd rfl (Or.inl rfl) (pe_c (E := E0) c_place_beside (hr.mono (by decide)) (by rfl) passL (pa_cons (pv 0) (pa_cons (pv 3) (pa_cons (pv 2) pa_nil)))))
      (pss_cons (ps_set (i := 5) sc_slid.nd rfl (Or.inl rfl) (pe_callTy call_list_of (by rfl) T.list (by decide +kernel) (pa_cons (pv 1) pa_nil)))
      (pss_cons (ps_asg (pe_tupF (pa_cons (pe_ix ix_list (pv 5) (pv 4) (fun _ _ => rfl)) (pa_cons pe_int pa_nil))) (pg_tup (by rfl) (pgs_cons (pg_sub (pv 5) (pv 3) set_list) (pgs_cons (pg_sub (pv 5) (pv 4) set_list) pgs_nil))))
      (pss_one (ps_ret (pe_callTy call_tupF (by rfl) T.tuple (by decide +kernel) (pa_cons (pv 5) pa_nil)))))))), ?_⟩), hm, F.kp, hb⟩
  rintro ⟨⟨wd, hg, ns⟩, d, p⟩ ⟨f, hp, hb⟩
  have f : Fl wd hg := f
  have hp : ns.Perm (rg (wd * hg)) := hp
  have hb : pb wd hg (ns.idxOf 0) d = some p := hb
  have hl : ns.length = wd * hg := by rw [hp.length_eq, rg_len]
  have lm : (ns.map PyData.int).length = ns.length := List.length_map _
  have f2 := f.m2
  have f16 := f.m16
  have hi := idx_lt hp (show 0 < wd * hg by omega)
  obtain ⟨q1, q2, q3⟩ := f.pb hi hb
  refine run_seq (run_set (evd_index (ns := ns) (evd_var rfl) (evr evd_int) (zero_mem hp (show 0 < wd * hg by omega))) ?_)
  refine run_seq (run_set (evd_eq (evd_call (wd, hg, ns.idxOf 0, d) (eva_cons (evd_var rfl) (eva_cons (evd_var rfl) (eva_cons (evd_var rfl) eva_nil))) ⟨f, hi⟩ rfl) (d' := .int p) (congrArg optD hb)) ?_)
  refine run_seq (run_setO (evo_listT (evd_var rfl)) fun a => ?_)
  refine run_seq (run_swap (d := .int (ns.getD p 0)) (e := .int 0) (j := ns.idxOf 0) (k := p) (i := 5) rfl (eva_cons (evd_ix (n := p) (evl_var rfl) (evr (evd_var rfl)) (ixN_of rfl (by rw [lm]; omega)) (by rw [List.getElem?_map, getD_some 0 (show p < ns.length by omega)]; rfl)) (eva_cons evd_int eva_nil)) (evr (evd_var rfl)) (ixN_of rfl (by rw [lm]; omega)) (evr (evd_var rfl)) (ixN_of rfl (by rw [lm]; omega)) ?_)
  refine run_ret (evd_eq (evd_tupO (evl_var rfl)) ?_) rfl
  show PyData.tuple (((ns.map PyData.int).set (ns.idxOf 0) (.int (ns.getD p 0))).set p (.int 0)) = .tuple ((slI ns (ns.idxOf 0) p).map PyData.int)
  unfold slI
  rw [List.map_set, List.map_set]

/-! ### is_move -/
abbrev s_is_move : Stmt := top 22
theorem sc_is_move : FnScope ["floor", "standing", "thing"] ["floor", "standing", "thing"] (defScope s_is_move) := ⟨rfl, rfl, rfl, by decide +kernel, rfl, by decide +kernel, by decide +kernel⟩
abbrev sp_is_move (K : PySem.W.Frag) (mg : Str → Option Value) : Sp := spO K mg (fun x : (Nat × Nat × List Int) × PyData => (Fl x.1.1 x.1.2.1 ∧ x.1.2.2.Perm (rg (x.1.1 * x.1.2.1))) ∧ isX x.2 = false) (fun x => [fl x.1.1 x.1.2.1, iT x.1.2.2, x.2]) (fun x => .ok (.bool (isMv x.1.1 x.1.2.1 x.1.2.2 x.2)))

theorem c_is_move (T : Txt w K mg A) (c_words_at : Cl P w K mg base "words_at" ["floor", "empty"] 2 (sp_words_at K mg)) (F : At K mg "is_move" s_is_move ["floor", "standing", "thing"]) : Cl P w K mg base "is_move" ["floor", "standing", "thing"] 3 (sp_is_move K mg) := by
  obtain ⟨f, fd, F, hm, hb⟩ := F.ex
  refine ⟨f, fd, okO F sc_is_move (fun _ => rfl) (fun cdv Ar outer s H E hr => ⟨_, (pss_one (ps_ret (pe_and (pe_callB call_isX (by rfl) T.isinstance (by decide +kernel) (pa_cons (pv 2) (pa_cons (pe_bltn (v := .ty "str") (by rfl) T.str (by decide +kernel) rfl) pa_nil))) (pe_and (pe_cmpR op_in_seq (pv 2) (pe_co rfl T.c_WORDS) (by with_unfolding_all rfl)) (pe_one (pe_cmpR op_in_seq (pv 2) (pe_c (E := E0) c_words_at (hr.mono (by decide)) (by rfl) passL (pa_cons (pv 0) (pa_cons (pe_bt PySem.F.slot_tuple_index PySem.F.type_tuple_index mt_tupIx (pv 1) (pa_cons pe_int pa_nil)) pa_nil))) (by with_unfolding_all rfl))))))), ?_⟩), hm, F.kp, hb⟩
  rintro ⟨⟨wd, hg, ns⟩, x⟩ ⟨⟨f, hp⟩, hx⟩
  have f : Fl wd hg := f
  have hp : ns.Perm (rg (wd * hg)) := hp
  have hx : isX x = false := hx
  have f2 := f.m2
  have hi := idx_lt hp (show 0 < wd * hg by omega)
  cases hs : isSt x with
  | false =>
    refine run_ret (evd_eq (evd_and (a := false) (b := false) (evr (evd_is (evr (evd_var rfl)) (hs ▸ kt_str x) hx)) fun h => nomatch h) ?_) rfl
    cases x with
    | str z => cases hs
    | _ => rfl
  | true =>
    cases x with
    | str z =>
      refine run_ret (evd_eq (evd_and (a := true) (evr (evd_is (evr (evd_var rfl)) kt_str_str)) fun _ => evr (evd_and (evr (evd_inT (zs := drs.map Dr.s) (evr (evd_var rfl)) (evd_con T.t_WORDS))) fun _ => evr (evd_inL (zs := (wdsAt wd hg (ns.idxOf 0)).map Dr.s) (evr (evd_var rfl)) (evl_o (evo_eq (evo_call (wd, hg, ns.idxOf 0) (eva_cons (evd_var rfl) (eva_cons (evd_index (ns := ns) (evd_var rfl) (evr evd_int) (zero_mem hp (show 0 < wd * hg by omega))) eva_nil)) ⟨f, hi⟩ rfl) (by rw [List.map_map]; rfl)))))) ?_) rfl
      show PyData.bool (true && (decide (z ∈ drs.map Dr.s) && decide (z ∈ (wdsAt wd hg (ns.idxOf 0)).map Dr.s))) = .bool (isMv wd hg ns (.str z))
      rw [isMv_str, Bool.true_and]
    | _ => cases hs

/-! ### moved -/
abbrev s_moved : Stmt := top 24
theorem sc_moved : FnScope ["floor", "standing", "words", "word"] ["floor", "standing", "words"] (defScope s_moved) := ⟨rfl, rfl, rfl, by decide +kernel, rfl, by decide +kernel, by decide +kernel⟩
abbrev sp_moved (K : PySem.W.Frag) (mg : Str → Option Value) : Sp := spO K mg (fun x : PyData × PyData × PyData => noX x.1 = true ∧ noX x.2.1 = true ∧ noS x.2.2 = true) (fun x => [x.1, x.2.1, x.2.2]) (fun x => if isFloorD x.1 = true then (if stD (areaN x.1 : Nat) x.2.1 = true then (match mvD x.1 x.2.1 x.2.2 with | some ns => .ok (iT ns) | none => .ex "BadMove") else .ex "BadStanding") else .ex "BadFloor")

theorem c_moved (T : Txt w K mg A) (c_need_standing : Cl P w K mg base "need_standing" ["floor", "standing"] 4 (sp_need_standing K mg)) (c_slid : Cl P w K mg base "slid" ["floor", "standing", "word"] 2 (sp_slid K mg)) (c_is_move : Cl P w K mg base "is_move" ["floor", "standing", "thing"] 3 (sp_is_move K mg)) (F : At K mg "moved" s_moved ["floor", "standing", "words"]) : Cl P w K mg base "moved" ["floor", "standing", "words"] 5 (sp_moved K mg) := by
  obtain ⟨f, fd, F, hm, hb⟩ := F.ex
  refine ⟨f, fd, okO F sc_moved (fun _ => rfl) (fun cdv Ar outer s H E hr => ⟨_, (pss_cons (ps_expr (pe_c (E := E) c_need_standing (hr.mono (by decide)) (by rfl) (passes_call (takes_of rfl rfl rfl rfl) (fun _ _ _ _ z => z)) (pa_cons (pv 0) (pa_cons (pv 1) pa_nil))))
      (pss_cons (ps_if (pt_not (pt_val (pe_callB call_isX (by rfl) T.isinstance (by decide +kernel) (pa_cons (pv 2) (pa_cons (pe_bltn (v := .ty "list") (by rfl) T.list (by decide +kernel) rfl) pa_nil))))) (pss_one (ps_rz T.x_BadMove rfl (takes_of rfl rfl rfl rfl) (by rfl))) pss_nil)
      (pss_cons (ps_for (passes_of rfl) rfl (pi_list (pv 2)) (pg_name (i := 3) sc_moved.nd rfl (Or.inl rfl))
      (pss_cons (ps_if (pt_not (pt_val (pe_c (E := E0) c_is_move (hr.mono (by decide)) (by rfl) passL (pa_cons (pv 0) (pa_cons (pv 1) (pa_cons (pv 3) pa_nil)))))) (pss_one (ps_rz T.x_BadMove rfl (takes_of rfl rfl rfl rfl) (by rfl))) pss_nil)
      (pss_one (ps_set (i := 1) sc_moved.nd rfl (Or.inl rfl) (pe_c (E := E0) c_slid (hr.mono (by decide)) (by rfl) passL (pa_cons (pv 0) (pa_cons (pv 1) (pa_cons (pv 3) pa_nil))))))))
      (pss_one (ps_ret (pv 1)))))), ?_⟩), hm, F.kp, hb⟩
  rintro ⟨x, y, z⟩ ⟨hx, hy, hz⟩
  have hz : noS z = true := hz
  cases hf : isFloorD x with
  | false => exact run_seq (run_dropX (evx_call (x, y) (eva_cons (evd_var rfl) (eva_cons (evd_var rfl) eva_nil)) ⟨hx, hy⟩ (by show (if isFloorD x = true then _ else Oc.ex "BadFloor") = _; rw [hf]; rfl)) rfl)
  | true =>
    obtain ⟨wd, hg, f, rfl⟩ := floor_of hf
    cases hs : stD (areaN (fl wd hg) : Nat) y with
    | false => exact run_seq (run_dropX (evx_call (fl wd hg, y) (eva_cons (evd_var rfl) (eva_cons (evd_var rfl) eva_nil)) ⟨hx, hy⟩ (by show (if isFloorD (fl wd hg) = true then (if stD (areaN (fl wd hg) : Nat) y = true then _ else Oc.ex "BadStanding") else Oc.ex "BadFloor") = _; rw [hf, hs]; rfl)) rfl)
    | true =>
      obtain ⟨ns, rfl, hp⟩ := stD_iff.mp hs
      have hp : ns.Perm (rg (wd * hg)) := hp
      refine run_seq (run_drop (evr (evd_call (fl wd hg, iT ns) (eva_cons (evd_var rfl) (eva_cons (evd_var rfl) eva_nil)) ⟨hx, hy⟩ ((if_pos hf).trans (if_pos hs)))) ?_)
      show Run K mg E _ _ { nx := fun _ => (match mvD (fl wd hg) (iT ns) z with | some ns => Oc.ok (iT ns) | none => .ex "BadMove") = .ok .none, rt := fun c => (match mvD (fl wd hg) (iT ns) z with | some ns => Oc.ok (iT ns) | none => .ex "BadMove") = c }
      cases hl : isLs z with
      | false =>
        refine run_seq (run_if (b := true) (evt_not (a := false) (evt_B (evr (evd_is (evr (evd_var rfl)) (hl ▸ kt_lst z hz) (noS_x hz))))) (fun _ => run_rz ?_ T.x_BadMove.g) (fun h => nomatch h))
        cases z with
        | list ws => cases hl
        | _ => rfl
      | true =>
        cases z with
        | list ws =>
          have hw : ∀ d ∈ ws, isX d = false := fun d hd => by
            have := List.all_eq_true.mp (show (ws.all fun x => !isX x) = true from hz) d hd
            simpa using this
          have e0 : mvD (fl wd hg) (iT ns) (.list ws) = mvs wd hg ns ws := by
            show mvs wd hg (intsOf (iT ns)) ws = _
            rw [intsOf_iT]
          rw [e0]
          refine run_seq (run_if (b := false) (evt_not (a := true) (evt_B (evr (evd_is (evr (evd_var rfl)) kt_list_list)))) (fun h => nomatch h) fun _ => run_next ?_)
          refine run_seq (run_for (fun n Δ => ∃ ns' b, ns'.Perm (rg (wd * hg)) ∧ mvs wd hg ns ws = mvs wd hg ns' (ws.drop n) ∧ Δ = [some (.d (fl wd hg)), some (.d (iT ns')), some (.d (.list ws)), b]) (evd_var rfl) rfl ⟨ns, _, hp, by rw [List.drop_zero], rfl⟩ (fun n d Δ hn hI => ?_) fun Δ hI => ?_)
          · obtain ⟨ns', b, hp', e1, rfl⟩ := hI
            have hd := hw d (List.mem_of_getElem? hn)
            have e2 : ws.drop n = d :: ws.drop (n + 1) := by
              obtain ⟨h1, h2⟩ := List.getElem?_eq_some_iff.mp hn
              rw [List.drop_eq_getElem_cons h1, h2]
            rw [e2] at e1
            have e3 : mvs wd hg ns ws = (mv1 wd hg ns' d).bind fun ns2 => mvs wd hg ns2 (ws.drop (n + 1)) := e1
            refine run_seq (run_if (b := !isMv wd hg ns' d) (evt_not (evt_B (evr (evd_call ((wd, hg, ns'), d) (eva_cons (evd_var rfl) (eva_cons (evd_var rfl) (eva_cons (evd_var rfl) eva_nil))) ⟨⟨f, hp'⟩, hd⟩ rfl)))) (fun h => run_rz ?_ T.x_BadMove.g) fun h => run_next ?_)
            · have h1 : (mv1 wd hg ns' d).isSome = false := by rw [Bool.not_eq_true'] at h; exact h
              have h2 : mv1 wd hg ns' d = none := by
                cases q : mv1 wd hg ns' d with
                | none => rfl
                | some _ => rw [q] at h1; cases h1
              rw [h2] at e3
              show (match mvs wd hg ns ws with | some ns => Oc.ok (iT ns) | none => .ex "BadMove") = _
              rw [e3]; rfl
            · have h1 : (mv1 wd hg ns' d).isSome = true := by rw [Bool.not_eq_false'] at h; exact h
              cases q : mv1 wd hg ns' d with
              | none => rw [q] at h1; cases h1
              | some ns2 =>
                rw [q] at e3
                cases d with
                | str s =>
                  have q' : ((drOf s).bind fun r => (pb wd hg (ns'.idxOf 0) r).map (slI ns' (ns'.idxOf 0))) = some ns2 := q
                  cases hr2 : drOf s with
                  | none => rw [hr2] at q'; cases q'
                  | some r =>
                    have es := drOf_some hr2
                    subst es
                    rw [hr2] at q'
                    have q2 : (pb wd hg (ns'.idxOf 0) r).map (slI ns' (ns'.idxOf 0)) = some ns2 := q'
                    cases hb2 : pb wd hg (ns'.idxOf 0) r with
                    | none => rw [hb2] at q2; cases q2
                    | some p =>
                      rw [hb2] at q2
                      have q3 : slI ns' (ns'.idxOf 0) p = ns2 := Option.some.inj q2
                      refine run_set (evd_eq (evd_call ((wd, hg, ns'), r, p) (eva_cons (evd_var rfl) (eva_cons (evd_var rfl) (eva_cons (evd_var rfl) eva_nil))) ⟨f, hp', hb2⟩ rfl) (congrArg iT q3)) ?_
                      exact ⟨ns2, _, mv1_perm f hp' q, e3, rfl⟩
                | _ => cases q
          · obtain ⟨ns', b, hp', e1, rfl⟩ := hI
            rw [List.drop_length] at e1
            refine run_ret (evd_var rfl) ?_
            show (match mvs wd hg ns ws with | some ns => Oc.ok (iT ns) | none => .ex "BadMove") = _
            rw [e1]; rfl
        | _ => cases hl

/-! ### _law_refused -/
abbrev s_law_refused : Stmt := top 34
theorem sc_law_refused : FnScope ["_law_floor_here", "_law_standing_here", "_law_words_here", "_law_caught", "_law_e"] ["_law_floor_here", "_law_standing_here", "_law_words_here"] (defScope s_law_refused) := ⟨rfl, rfl, rfl, by decide +kernel, rfl, by decide +kernel, by decide +kernel⟩
def refu2 (o : Option (List Int)) : List PyData := match o with
  | some _ => []
  | none => [.str "move"]
abbrev sp_law_refused (K : PySem.W.Frag) (mg : Str → Option Value) : Sp := spO K mg (fun x : (Nat × Nat × List Int) × PyData => (Fl x.1.1 x.1.2.1 ∧ x.1.2.2.Perm (rg (x.1.1 * x.1.2.1))) ∧ noS x.2 = true) (fun x => [fl x.1.1 x.1.2.1, iT x.1.2.2, x.2]) (fun x => .own (refu2 (mvD (fl x.1.1 x.1.2.1) (iT x.1.2.2) x.2)))
abbrev tb_law_refused (K : PySem.W.Frag) (mg : Str → Option Value) : WX → TS := fun W => tDrop (tCallS (sp_moved K mg) (WE W) (tCons (tVar 0) (tCons (tVar 1) (tCons (tVar 2) tNil))))

theorem c_law_refused (T : Txt w K mg A) (c_law_word : Cl P w K mg base "_law_word" ["_law_e"] 1 (sp_law_word K mg)) (c_moved : Cl P w K mg base "moved" ["floor", "standing", "words"] 5 (sp_moved K mg)) (F : At K mg "_law_refused" s_law_refused ["_law_floor_here", "_law_standing_here", "_law_words_here"]) : Cl P w K mg base "_law_refused" ["_law_floor_here", "_law_standing_here", "_law_words_here"] 6 (sp_law_refused K mg) := by
  obtain ⟨f, fd, F, hm, hb⟩ := F.ex
  refine ⟨f, fd, okO F sc_law_refused (fun _ => rfl) (fun cdv Ar outer s H E hr => ⟨_, (pss_cons (ps_set (i := 3) sc_law_refused.nd rfl (Or.inl rfl) pe_non)
      (pss_cons (ps_keep (i := 4) (j := 3) (tb := tb_law_refused K mg) rfl rfl rfl sc_law_refused.nd rfl rfl (by decide) rfl rfl ⟨by rfl, by decide, Or.inl T.x_SlideError.g⟩ (hb := fun W pn xe tk _ => (pss_one (ps_expr (pe_cS c_moved (hr.mono (by decide)) (by rfl) tk (by exact (pa_cons (pv 0) (pa_cons (pv 1) (pa_cons (pv 2) pa_nil)))))))))
      (pss_one (ps_ret (pe_c (E := E0) c_law_word (hr.mono (by decide)) (by rfl) passL (pa_cons (pv 3) pa_nil)))))), ?_⟩), hm, F.kp, hb⟩
  rintro ⟨⟨wd, hg, ns⟩, z⟩ ⟨⟨f, hp⟩, hz⟩
  have f : Fl wd hg := f
  have hp : ns.Perm (rg (wd * hg)) := hp
  have hz : noS z = true := hz
  have hf := fl_ok f
  have hs : stD ((wd * hg : Nat) : Int) (iT ns) = true := stD_iff.mpr ⟨ns, rfl, hp⟩
  refine run_seq (run_set evd_non ?_)
  show Run K mg E _ _ { nx := fun _ => Oc.own (refu2 (mvD (fl wd hg) (iT ns) z)) = .ok .none, rt := fun c => Oc.own (refu2 (mvD (fl wd hg) (iT ns) z)) = c }
  refine run_seq (run_keep (tb := tb_law_refused K mg) (rw_drop (fl wd hg, iT ns, z) (eva_cons (evd_var rfl) (eva_cons (evd_var rfl) (eva_cons (evd_var rfl) eva_nil))) ⟨rfl, noX_iT ns, hz⟩ ?_))
  cases hm : mvD (fl wd hg) (iT ns) z with
  | some ns' =>
    refine .inl ⟨iT ns', ?_, run_retO (evo_call (none, A.BadFloor) (eva_cons (evd_var rfl) eva_nil) trivial rfl) rfl⟩
    exact (if_pos hf).trans (if_pos hs)
  | none =>
    refine .inr (.inr ⟨"BadMove", ?_, fun C g => ?_⟩)
    · exact (if_pos hf).trans (if_pos hs)
    · have hC : C = A.BadMove := by
        have := g.symm.trans T.x_BadMove.g
        cases this; rfl
      subst hC
      exact ⟨T.m_BadMove, run_retO (evo_call (some ("BadMove", "move"), A.BadMove) (eva_cons (evd_var rfl) eva_nil) ⟨Or.inr (Or.inr ⟨rfl, rfl⟩), g⟩ rfl) rfl⟩

/-! ### _law_whole -/
abbrev s_law_whole : Stmt := top 28
theorem sc_law_whole : FnScope ["_law_found"] ["_law_found"] (defScope s_law_whole) := ⟨rfl, rfl, rfl, by decide +kernel, rfl, by decide +kernel, by decide +kernel⟩
abbrev sp_law_whole (K : PySem.W.Frag) (mg : Str → Option Value) : Sp := spO K mg (fun _ : Int => True) (fun x => [.int x]) (fun _ => .ok (.bool true))

theorem c_law_whole (T : Txt w K mg A) (F : At K mg "_law_whole" s_law_whole ["_law_found"]) : Cl P w K mg base "_law_whole" ["_law_found"] 1 (sp_law_whole K mg) := by
  obtain ⟨f, fd, F, hm, hb⟩ := F.ex
  refine ⟨f, fd, okO F sc_law_whole (fun _ => rfl) (fun cdv Ar outer s H E hr => ⟨_, (pss_one (ps_ret (pe_and (pe_callB call_isX (by rfl) T.isinstance (by decide +kernel) (pa_cons (pv 0) (pa_cons (pe_bltn (v := .ty "int") (by rfl) T.int (by decide +kernel) rfl) pa_nil))) (pe_one (pe_not (pe_callB call_isX (by rfl) T.isinstance (by decide +kernel) (pa_cons (pv 0) (pa_cons (pe_bltn (v := .ty "bool") (by rfl) T.bool (by decide +kernel) rfl) pa_nil)))))))), ?_⟩), hm, F.kp, hb⟩
  intro x _
  exact run_ret (evd_eq (evd_and (a := true) (b := true) (evr (evd_is (evr (evd_var rfl)) kt_int_int)) fun _ => evr (evd_not (a := false) (evr (evd_is (evr (evd_var rfl)) kt_int_bool)))) rfl) rfl

/-! ### _law_is -/
abbrev s_law_is : Stmt := top 33
theorem sc_law_is : FnScope ["_law_found", "_law_due", "_law_one"] ["_law_found", "_law_due"] (defScope s_law_is) := ⟨rfl, rfl, rfl, by decide +kernel, rfl, by decide +kernel, by decide +kernel⟩
abbrev sp_law_is (K : PySem.W.Frag) (mg : Str → Option Value) : Sp := spO K mg (fun x : List Int × List Int => x.1.length ≤ 50000) (fun x => [iT x.1, iT x.2]) (fun x => .ok (.bool (decide (x.1 = x.2))))

theorem c_law_is (T : Txt w K mg A) (c_law_whole : Cl P w K mg base "_law_whole" ["_law_found"] 1 (sp_law_whole K mg)) (F : At K mg "_law_is" s_law_is ["_law_found", "_law_due"]) : Cl P w K mg base "_law_is" ["_law_found", "_law_due"] 2 (sp_law_is K mg) := by
  obtain ⟨f, fd, F, hm, hb⟩ := F.ex
  refine ⟨f, fd, okO F sc_law_is (fun _ => rfl) (fun cdv Ar outer s H E hr => ⟨_, (pss_one (ps_ret (pe_and (pe_callB call_isX (by rfl) T.isinstance (by decide +kernel) (pa_cons (pv 0) (pa_cons (pe_bltn (v := .ty "tuple") (by rfl) T.tuple (by decide +kernel) rfl) pa_nil))) (pe_and (pe_cmpR (op_eqD hr.units) (pv 0) (pv 1) (nomark _)) (pe_one (pe_callB (cr_all rfl) (by rfl) T.all (by decide +kernel) (pa_cons (pe_lc (own := [("_law_one", 2)]) (g := gName 2) (tt := tYes) rfl sc_law_is.nd (pi_tup (pv 0)) (blkOk_by (own := [("_law_one", 2)]) (N := ["_law_found", "_law_due", "_law_one"]) (sc := defScope s_law_is) (by decide +kernel)) (fun _ _ _ _ _ => (pg_name (i := 2) sc_law_is.nd rfl (Or.inl rfl))) (fun _ _ _ _ _ => pts_nil) (fun _ _ _ _ _ => (pe_c (E := E0) c_law_whole (hr.mono (by decide)) (by rfl) passL (pa_cons (pv 2) pa_nil)))) pa_nil))))))), ?_⟩), hm, F.kp, hb⟩
  rintro ⟨a, b⟩ hl
  have hl : a.length ≤ 50000 := hl
  refine run_ret (evd_eq (evd_and (a := true) (b := decide (a = b)) (evr (evd_is (evr (evd_var rfl)) kt_tuple_tuple)) fun _ => evr (evd_eq (evd_and (a := decide (a = b)) (b := true) (evr (evd_eq (evd_eqD (evr (evd_var rfl)) (evr (evd_var rfl)) (okIntsT a) (okIntsT b)) (congrArg PyData.bool (eqv_iT a b)))) fun _ => evr (evd_eq (evd_all (bs := a.map fun _ => true) (evl_o (evo_eq (evo_mapT a (fun _ => .bool true) (evd_var rfl) rfl rfl hl fun x _ => evd_call x (eva_cons (evd_var rfl) eva_nil) trivial rfl) (by rw [List.map_map]; rfl)))) (congrArg PyData.bool (by rw [List.all_map]; exact List.all_eq_true.mpr fun _ _ => rfl)))) (by rw [Bool.and_true]))) rfl) rfl

/-! ### law -/
abbrev s_law : Stmt := top 35
theorem sc_law : FnScope ["_law_script", "_law_number", "_law_floor_here", "_law_first", "_law_now", "_law_words_here", "_law_stands", "_law_k", "_law_due", "_law_found", "_law_word_here", "_law_handed", "_law_at", "_law_cant", "_law_odd", "_law_wrong"] ["_law_script"] (defScope s_law) := ⟨rfl, rfl, rfl, by decide +kernel, rfl, by decide +kernel, by decide +kernel⟩
abbrev sp_law (K : PySem.W.Frag) (mg : Str → Option Value) : Sp := spO K mg (fun _ : List Int => True) (fun ns => [scrD ns]) (fun _ => .ok (.bool true))
theorem draw_nn (ns : List Int) (k : Int) : drawI ns k = ((drawI ns k).toNat : Int) := (Int.toNat_of_nonneg (draw_bd ns k).1).symm
theorem mvD_eq (w h : Nat) (ns : List Int) (ws : List PyData) : mvD (fl w h) (iT ns) (.list ws) = mvs w h ns ws := by
  show mvs w h (intsOf (iT ns)) ws = _
  rw [intsOf_iT]
def oddW : List PyData := [.str "Up", .str "", .none, .int 0, .list [.str "up"], .tuple [.str "up"], .bool true, .str "upup"]
theorem oddW_mv (w h : Nat) (ns : List Int) {d : PyData} (hd : d ∈ oddW) : mv1 w h ns d = none ∧ isX d = false := by
  unfold oddW at hd
  have e : ∀ z : Str, drOf z = none → mv1 w h ns (.str z) = none := fun z hz => by
    show ((drOf z).bind _) = none
    rw [hz]; rfl
  simp only [List.mem_cons, List.not_mem_nil, or_false] at hd
  rcases hd with rfl | rfl | rfl | rfl | rfl | rfl | rfl | rfl
  · exact ⟨e _ (by decide +kernel), rfl⟩
  · exact ⟨e _ (by decide +kernel), rfl⟩
  · exact ⟨rfl, rfl⟩
  · exact ⟨rfl, rfl⟩
  · exact ⟨rfl, rfl⟩
  · exact ⟨rfl, rfl⟩
  · exact ⟨rfl, rfl⟩
  · exact ⟨e _ (by decide +kernel), rfl⟩
def cantW (w h e : Nat) : List Dr := drs.filter fun d => !decide (d.s ∈ (wdsAt w h e).map Dr.s)
theorem cant_mv {w h : Nat} {ns : List Int} {d : Dr} (hd : d ∈ cantW w h (ns.idxOf 0)) : mv1 w h ns (.str d.s) = none := by
  have h2 := (List.mem_filter.mp hd).2
  have h3 : decide (d.s ∈ (wdsAt w h (ns.idxOf 0)).map Dr.s) = false := by rw [Bool.not_eq_true'] at h2; exact h2
  have h4 := isMv_str w h ns d.s
  rw [h3, Bool.and_false] at h4
  have h5 : (mv1 w h ns (.str d.s)).isSome = false := h4.symm
  cases q : mv1 w h ns (.str d.s) with
  | none => rfl
  | some _ => rw [q] at h5; cases h5

theorem o_law (T : Txt w K mg A) (c_law_draw : Cl P w K mg base "_law_draw" ["_law_script", "_law_k"] 1 (sp_law_draw K mg)) (c_law_floor : Cl P w K mg base "_law_floor" ["_law_number"] 1 (sp_law_floor K mg)) (c_law_standing : Cl P w K mg base "_law_standing" ["_law_script", "_law_k", "_law_floor_here"] 2 (sp_law_standing K mg)) (c_law_words : Cl P w K mg base "_law_words" ["_law_floor_here", "_law_standing_here"] 2 (sp_law_words K mg)) (c_moves : Cl P w K mg base "moves" ["floor", "standing"] 5 (sp_moves K mg)) (c_law_moved : Cl P w K mg base "_law_moved" ["_law_floor_here", "_law_standing_here", "_law_word_here"] 1 (sp_law_moved K mg)) (c_law_refused : Cl P w K mg base "_law_refused" ["_law_floor_here", "_law_standing_here", "_law_words_here"] 6 (sp_law_refused K mg)) (c_law_is : Cl P w K mg base "_law_is" ["_law_found", "_law_due"] 2 (sp_law_is K mg)) (c_moved : Cl P w K mg base "moved" ["floor", "standing", "words"] 5 (sp_moved K mg)) {f : Addr} {fd : FuncData} (F : Fun K "law" "law" s_law f fd) : FnOk P w K mg base (L2.CX P w) 7 f fd ["_law_script"] (sp_law K mg) := by
  refine okO F sc_law (fun _ => rfl) (fun cdv Ar outer s H E hr => ⟨_, (pss_cons (ps_set (i := 1) sc_law.nd rfl (Or.inl rfl) (pe_c (E := E0) c_law_draw (hr.mono (by decide)) (by rfl) passL (pa_cons (pv 0) (pa_cons pe_int pa_nil))))
      (pss_cons (ps_set (i := 2) sc_law.nd rfl (Or.inr rfl) (pe_c (E := E0) c_law_floor (hr.mono (by decide)) (by rfl) passL (pa_cons (pv 1) pa_nil)))
      (pss_cons (ps_set (i := 3) sc_law.nd rfl (Or.inl rfl) (pe_c (E := E0) c_law_standing (hr.mono (by decide)) (by rfl) passL (pa_cons (pv 0) (pa_cons pe_int (pa_cons (pv 2) pa_nil)))))
      (pss_cons (ps_set (i := 4) sc_law.nd rfl (Or.inl rfl) (pv 3))
      (pss_cons (ps_set (i := 5) sc_law.nd rfl (Or.inl rfl) (pe_lst pa_nil))
      (pss_cons (ps_set (i := 6) sc_law.nd rfl (Or.inr rfl) (pe_lst (pa_cons (pv 3) pa_nil)))
      (pss_cons (ps_for (passes_of rfl) rfl (pi_range1 (by rfl) T.range (pa_cons (pe_op op_add pe_int (pe_callB call_len_seq (by rfl) T.len (by decide +kernel) (pa_cons (pe_slice sl_list (pv 0) po_none (po_some pe_int)) pa_nil))) pa_nil)) (pg_name (i := 7) sc_law.nd rfl (Or.inl rfl))
      (pss_cons (ps_set (i := 8) sc_law.nd rfl (Or.inl rfl) (pe_c (E := E0) c_law_words (hr.mono (by decide)) (by rfl) passL (pa_cons (pv 2) (pa_cons (pv 4) pa_nil))))
      (pss_cons (ps_set (i := 9) sc_law.nd rfl (Or.inl rfl) (pe_c (E := E0) c_moves (hr.mono (by decide)) (by rfl) passL (pa_cons (pv 2) (pa_cons (pv 4) pa_nil))))
      (pss_cons (ps_if (PW.pt (pw_or (pt_not (pt_val (pe_callB call_isX (by rfl) T.isinstance (by decide +kernel) (pa_cons (pv 9) (pa_cons (pe_bltn (v := .ty "list") (by rfl) T.list (by decide +kernel) rfl) pa_nil))))) (pw_or1 (pt_cmpR (op_neD hr.units) (pv 9) (pv 8) (nomark _))))) (pss_one (ps_ret pe_bl)) pss_nil)
      (pss_cons (ps_expr (pe_bm PySem.F.plainAttrs_list PySem.F.slot_list_append PySem.F.type_list_append mt_append (pv 9) (pa_cons pe_str pa_nil)))
      (pss_cons (ps_set (i := 10) sc_law.nd rfl (Or.inl rfl) (pe_ix ix_list (pv 8) (pe_op op_mod (pe_c (E := E0) c_law_draw (hr.mono (by decide)) (by rfl) passL (pa_cons (pv 0) (pa_cons (pe_op op_add pe_int (pv 7)) pa_nil))) (pe_callB call_len_seq (by rfl) T.len (by decide +kernel) (pa_cons (pv 8) pa_nil))) (fun _ _ => rfl)))
      (pss_cons (ps_set (i := 4) sc_law.nd rfl (Or.inl rfl) (pe_c (E := E0) c_law_moved (hr.mono (by decide)) (by rfl) passL (pa_cons (pv 2) (pa_cons (pv 4) (pa_cons (pv 10) pa_nil)))))
      (pss_cons (ps_if (pt_not (pt_val (pe_c (E := E0) c_law_is (hr.mono (by decide)) (by rfl) passL (pa_cons (pe_c (E := E0) c_moved (hr.mono (by decide)) (by rfl) passL (pa_cons (pv 2) (pa_cons (pe_ix ix_list (pv 6) (pe_un un_neg pe_int) (fun _ _ => rfl)) (pa_cons (pe_lst (pa_cons (pv 10) pa_nil)) pa_nil)))) (pa_cons (pv 4) pa_nil))))) (pss_one (ps_ret pe_bl)) pss_nil)
      (pss_cons (ps_expr (pe_bm PySem.F.plainAttrs_list PySem.F.slot_list_append PySem.F.type_list_append mt_append (pv 5) (pa_cons (pv 10) pa_nil)))
      (pss_one (ps_expr (pe_bm PySem.F.plainAttrs_list PySem.F.slot_list_append PySem.F.type_list_append mt_append (pv 6) (pa_cons (pv 4) pa_nil)))))))))))))
      (pss_cons (ps_set (i := 11) sc_law.nd rfl (Or.inl rfl) (pe_callTy call_list_of (by rfl) T.list (by decide +kernel) (pa_cons (pv 5) pa_nil)))
      (pss_cons (ps_if (PW.pt (pw_or (pt_not (pt_val (pe_c (E := E0) c_law_is (hr.mono (by decide)) (by rfl) passL (pa_cons (pe_c (E := E0) c_moved (hr.mono (by decide)) (by rfl) passL (pa_cons (pv 2) (pa_cons (pv 3) (pa_cons (pv 11) pa_nil)))) (pa_cons (pv 4) pa_nil))))) (pw_or (pt_cmpR (op_neD hr.units) (pv 11) (pv 5) (nomark _)) (pw_or1 (pt_cmpR (op_neD hr.units) (pe_c (E := E0) c_moved (hr.mono (by decide)) (by rfl) passL (pa_cons (pv 2) (pa_cons (pv 3) (pa_cons (pe_lst pa_nil) pa_nil)))) (pv 3) (nomark _)))))) (pss_one (ps_ret pe_bl)) pss_nil)
      (pss_cons (ps_set (i := 12) sc_law.nd rfl (Or.inr rfl) (pe_op op_mod (pe_c (E := E0) c_law_draw (hr.mono (by decide)) (by rfl) passL (pa_cons (pv 0) (pa_cons pe_int pa_nil))) (pe_callB call_len_seq (by rfl) T.len (by decide +kernel) (pa_cons (pv 5) pa_nil))))
      (pss_cons (ps_setLc (own := [("_law_word_here", 10)]) (g := gName 10)  (i := 13) rfl sc_law.nd rfl rfl (sw_true rfl rfl rfl (by decide +kernel)) (pi_tup (pe_tupF (pa_cons pe_str (pa_cons pe_str (pa_cons pe_str (pa_cons pe_str pa_nil)))))) (blkOk_by (own := [("_law_word_here", 10)]) (N := ["_law_script", "_law_number", "_law_floor_here", "_law_first", "_law_now", "_law_words_here", "_law_stands", "_law_k", "_law_due", "_law_found", "_law_word_here", "_law_handed", "_law_at", "_law_cant", "_law_odd", "_law_wrong"]) (sc := defScope s_law) (by decide +kernel)) (fun _ _ _ _ _ => (pg_name (i := 10) sc_law.nd rfl (Or.inl rfl))) (fun _ _ _ _ _ => pts_one (pt_cmpR (show OpR _ _ (rIn K true) from op_notIn_seq) (pv 10) (pe_c (E := E0) c_law_words (hr.mono (by decide)) (by rfl) passL (pa_cons (pv 2) (pa_cons (pe_ix (show IxR _ (rIxL K) from ix_list) (pv 6) (pv 12) (fun _ _ => rfl)) pa_nil))) (by with_unfolding_all rfl))) (fun _ _ _ _ _ => (pv 10)))
      (pss_cons (ps_set (i := 14) sc_law.nd rfl (Or.inl rfl) (pe_ix ix_list (pe_op op_cat (pv 13) (pe_lst (pa_cons pe_str (pa_cons pe_str (pa_cons pe_non (pa_cons pe_int (pa_cons (pe_lst (pa_cons pe_str pa_nil)) (pa_cons (pe_tupF (pa_cons pe_str pa_nil)) (pa_cons pe_bl (pa_cons pe_str pa_nil)))))))))) (pe_op op_mod (pe_c (E := E0) c_law_draw (hr.mono (by decide)) (by rfl) passL (pa_cons (pv 0) (pa_cons pe_int pa_nil))) (pe_op op_add (pe_callB call_len_seq (by rfl) T.len (by decide +kernel) (pa_cons (pv 13) pa_nil)) pe_int)) (fun _ _ => rfl)))
      (pss_cons (ps_if (pt_cmpR (op_neD hr.units) (pe_c (E := E0) c_law_refused (hr.mono (by decide)) (by rfl) passL (pa_cons (pv 2) (pa_cons (pv 3) (pa_cons (pe_op op_cat (pe_op op_cat (pe_slice sl_list (pv 5) po_none (po_some (pv 12))) (pe_lst (pa_cons (pv 14) pa_nil))) (pe_slice sl_list (pv 5) (po_some (pv 12)) po_none)) pa_nil)))) (pe_lst (pa_cons pe_str pa_nil)) (nomark _)) (pss_one (ps_ret pe_bl)) pss_nil)
      (pss_cons (ps_set (i := 15) sc_law.nd rfl (Or.inl rfl) (pe_ix ix_list (pe_lst (pa_cons (pe_callTy call_tupF (by rfl) T.tuple (by decide +kernel) (pa_cons (pv 5) pa_nil)) (pa_cons pe_non (pa_cons pe_str (pa_cons pe_int (pa_cons pe_dnewK (pa_cons (pe_ix ix_list (pv 5) pe_int (fun _ _ => rfl)) pa_nil))))))) (pe_op op_mod (pe_c (E := E0) c_law_draw (hr.mono (by decide)) (by rfl) passL (pa_cons (pv 0) (pa_cons pe_int pa_nil))) pe_int) (fun _ _ => rfl)))
      (pss_one (ps_ret (pe_cmpR (op_eqD hr.units) (pe_c (E := E0) c_law_refused (hr.mono (by decide)) (by rfl) passL (pa_cons (pv 2) (pa_cons (pv 3) (pa_cons (pv 15) pa_nil)))) (pe_lst (pa_cons pe_str pa_nil)) (nomark _)))))))))))))))))), ?_⟩)
  intro ns _
  have dr : ∀ k : Int, 0 ≤ k → k ≤ 1000000 → 0 ≤ k ∧ k ≤ 1000000 := fun _ a b => ⟨a, b⟩
  refine run_seq (run_set (evd_eq (evd_call (ns, 0) (eva_cons (evd_var rfl) (eva_cons evd_int eva_nil)) (dr 0 (by decide) (by decide)) rfl) (congrArg PyData.int (draw_nn _ _))) ?_)
  generalize (drawI (ns, (0 : Int)).1 (ns, (0 : Int)).2).toNat = N
  have f := fl_drawn N
  refine run_seq (run_set (evd_call N (eva_cons (evd_var rfl) eva_nil) trivial rfl) ?_)
  refine run_seq (run_set (evd_call (ns, 1, flW N, flH N) (eva_cons (evd_var rfl) (eva_cons evd_int (eva_cons (evd_var rfl) eva_nil))) ⟨f, by show 1 ≤ 900000; decide⟩ rfl) ?_)
  show Run K mg E _ [some (.d (scrD ns)), some (.d (.int N)), some (.d (fl (flW N) (flH N))), some (.d (iT (stI ns 1 (flW N * flH N)))), none, none, none, none, none, none, none, none, none, none, none, none] _
  have hp : (stI ns 1 (flW N * flH N)).Perm (rg (flW N * flH N)) := stI_perm _ _ _
  generalize stI ns 1 (flW N * flH N) = S0 at hp
  generalize flW N = w at f hp
  generalize flH N = h at f hp
  have f2 := f.m2
  have hf := fl_ok f
  have stOk : ∀ S : List Int, S.Perm (rg (w * h)) → stD ((w * h : Nat) : Int) (iT S) = true := fun S hS => stD_iff.mpr ⟨S, rfl, hS⟩
  have lTm : ∀ S : List Int, S.Perm (rg (w * h)) → S.length ≤ 50000 := fun S hS => by have := f.m16; rw [hS.length_eq, rg_len]; omega
  have mvO : ∀ (S S' : List Int) (ws : List PyData), S.Perm (rg (w * h)) → mvs w h S ws = some S' → (if isFloorD (fl w h) = true then (if stD ((w * h : Nat) : Int) (iT S) = true then (match mvD (fl w h) (iT S) (.list ws) with | some ns => Oc.ok (iT ns) | none => .ex "BadMove") else .ex "BadStanding") else .ex "BadFloor") = Oc.ok (iT S') := fun S S' ws hS hm => by
    rw [if_pos hf, if_pos (stOk S hS), mvD_eq, hm]
  refine run_seq (run_set (evd_var rfl) ?_)
  refine run_seq (run_setO (evo_lst eva_nil (lenOk rfl)) fun a5 => ?_)
  refine run_seq (run_setO (evo_lst (eva_cons (evd_var rfl) eva_nil) (lenOk rfl)) fun a6 => ?_)
  have hN : (ns.take 63).length ≤ 63 := by rw [List.length_take]; omega
  refine run_seq (run_forR (N := 2 + (ns.take 63).length) (fun n Δ => ∃ (ds : List Dr) (SS : List (List Int)) (S : List Int) (s7 s8 s9 s10 s11 s12 s13 s14 s15 : Option Sl), ds.length = n ∧ Walk w h S0 ds SS ∧ SS[n]? = some S ∧
      Δ = [some (.d (scrD ns)), some (.d (.int N)), some (.d (fl w h)), some (.d (iT S0)), some (.d (iT S)), some (.l a5 (wL ds)), some (.l a6 (SS.map iT)), s7, s8, s9, s10, s11, s12, s13, s14, s15])
    (evb_cons (evr (evd_eq (evd_add (evr evd_int) (evr (evd_lenL (evr_l (evl_o (evo_scrSl (evr (evd_var rfl)) evi_none (evi_some (evr evd_int)))))))) (d' := .int ((2 + (ns.take 63).length : Nat) : Int)) ?_)) evb_nil) (by omega) ⟨[], [S0], S0, _, _, _, _, _, _, _, _, _, rfl, .start hp, rfl, rfl⟩ (fun n Δ hn hI => ?_) (fun Δ hI => ?_))
  · congr 1
    have c : cutD (ns.map PyData.int) none (some 63) = (ns.take 63).map PyData.int := by
      unfold cutD
      have e63 : HT.sIx (ns.map PyData.int).length (ns.map PyData.int).length (some (63 : Int)) = min 63 (ns.map PyData.int).length := HT.sIx_nat _ _ 63
      rw [e63, HT.sIx_none, List.drop_zero, Nat.sub_zero, ← List.map_take, List.length_map]
      by_cases z : ns.length ≤ 63
      · rw [Nat.min_eq_right z, List.take_of_length_le (Nat.le_refl _), List.take_of_length_le z]
      · rw [Nat.min_eq_left (by omega)]
    rw [c, List.length_map]
    rfl
  · obtain ⟨ds, SS, S, s7, s8, s9, s10, s11, s12, s13, s14, s15, hl, W, hS, rfl⟩ := hI
    obtain ⟨S1, e1, hSp, e3⟩ := W.at_ n (by omega)
    rw [hS] at e1
    cases e1
    have hi := idx_lt hSp (show 0 < w * h by omega)
    have hwl := f.wds hi
    have hw4 := wds_len w h (S.idxOf 0)
    refine run_seq (run_setO (evo_call (w, h, S) (eva_cons (evd_var rfl) (eva_cons (evd_var rfl) eva_nil)) ⟨f, hSp⟩ rfl) fun a8 => ?_)
    refine run_seq (run_setO (evo_call (fl w h, iT S) (eva_cons (evd_var rfl) (eva_cons (evd_var rfl) eva_nil)) ⟨rfl, noX_iT S⟩ (((if_pos hf).trans (if_pos (stOk S hSp))).trans (by rw [intsOf_iT]; rfl)) (xs := wL (wdsAt w h (S.idxOf 0)))) fun a9 => ?_)
    show Run K mg E _ [some (.d (scrD ns)), some (.d (.int N)), some (.d (fl w h)), some (.d (iT S0)), some (.d (iT S)), some (.l a5 (wL ds)), some (.l a6 (SS.map iT)), some (.d (.int n)), some (.l a8 (wL (wdsAt w h (S.idxOf 0)))), some (.l a9 (wL (wdsAt w h (S.idxOf 0)))), s10, s11, s12, s13, s14, s15] _
    generalize hL : wdsAt w h (S.idxOf 0) = L at hwl hw4
    refine run_seq (run_if (b := false) (evt_eq (evt_or (a := false) (b := false) (evt_not (a := true) (evt_B (evr (evd_is (evr_own rfl) kt_list_list)))) fun _ => evt_eq (evt_test (evr (evd_neD (evr_own rfl) (evr_own rfl) (okDrs L) (okDrs L)))) (by rw [eqv_drs, decide_eq_true rfl]; rfl)) rfl) (fun z => nomatch z) fun _ => run_next ?_)
    refine run_seq (run_app (i := 9) rfl evd_str (by rw [List.length_map]; omega) ?_)
    have hlp : 0 < L.length := List.length_pos_iff.mpr hwl
    have hD : (drawI ns (30 + (n : Int))).toNat % L.length < L.length := Nat.mod_lt _ hlp
    generalize hDD : (drawI ns (30 + (n : Int))).toNat = D at hD
    refine run_seq (run_set (d := .str (L[D % L.length]).s) (evd_ix (xs := wL L) (n := D % L.length) (evl_var rfl) (evr (evd_mod (evr (evd_eq (evd_call (ns, 30 + (n : Int)) (eva_cons (evd_var rfl) (eva_cons (evd_add (evr evd_int) (evr (evd_var rfl))) eva_nil)) (dr _ (by omega) (by omega)) rfl) (d' := .int (D : Int)) (congrArg PyData.int ((draw_nn _ _).trans (by rw [← hDD]))))) (evr (evd_lenL (evr_own rfl))) (show (0 : Int) < (((wL L).length : Nat) : Int) by rw [List.length_map]; omega))) (ixN_of (j := D % L.length) (by rw [List.length_map]; rfl) (by rw [List.length_map]; exact hD)) (by rw [List.getElem?_map, List.getElem?_eq_getElem hD]; rfl)) ?_)
    have hmem : L[D % L.length] ∈ L := List.getElem_mem hD
    generalize L[D % L.length] = d at hmem
    rw [← hL] at hmem
    have hbs := mem_wds.mp hmem
    obtain ⟨p, hb⟩ := Option.isSome_iff_exists.mp hbs
    have hlm : lmD w h S d = iT (slI S (S.idxOf 0) p) := by unfold lmD; rw [hb]
    have hS' := mv1_perm f hSp (mv1_s hb)
    have W' := W.step f (by rw [hl]; exact hS) hSp hb
    refine run_seq (run_set (evd_call ((w, h, S), d) (eva_cons (evd_var rfl) (eva_cons (evd_var rfl) (eva_cons (evd_var rfl) eva_nil))) ⟨f, hSp⟩ (congrArg Oc.ok hlm)) ?_)
    have hm := mvs_one (mv1_s hb)
    generalize slI S (S.idxOf 0) p = S' at hlm hS' W' hm
    have hlS : (SS.map iT).length = n + 1 := by rw [List.length_map, W.len, hl]
    refine run_seq (run_if (b := false) (evt_eq (evt_not (a := true) (evt_B (evr (evd_eq (evd_call (S', S') (eva_cons (evd_call (fl w h, iT S, .list [.str d.s]) (eva_cons (evd_var rfl) (eva_cons (evd_ix (xs := SS.map iT) (n := n) (evl_var rfl) (evr (evd_neg (evr evd_int))) (by rw [hlS]; unfold ixN; rw [if_neg (by omega), if_pos (by omega)]; congr 1; omega) (by rw [List.getElem?_map, hS]; rfl)) (eva_cons (evd_own (evo_lst (eva_cons (evd_var rfl) eva_nil) (lenOk rfl))) eva_nil))) ⟨rfl, noX_iT S, rfl⟩ (mvO S S' _ hSp hm)) (eva_cons (evd_var rfl) eva_nil)) (lTm S' hS') rfl) (congrArg PyData.bool (decide_eq_true rfl)))))) rfl) (fun z => nomatch z) fun _ => run_next ?_)
    refine run_seq (run_app (i := 5) rfl (evd_var rfl) (by rw [List.length_map]; omega) ?_)
    refine run_app (i := 6) rfl (evd_var rfl) (by rw [hlS]; omega) ?_
    refine ⟨ds ++ [d], SS ++ [S'], S', some (.d (.int n)), some (.l a8 (wL L)), some (.l a9 (wL L ++ [.str "up"])), some (.d (.str d.s)), s11, s12, s13, s14, s15, by rw [List.length_append, hl]; rfl, W', ?_, ?_⟩
    · have : n + 1 = SS.length := by rw [W.len, hl]
      rw [this, List.getElem?_append_right (Nat.le_refl _), Nat.sub_self]; rfl
    · rw [List.map_append, show wL (ds ++ [d]) = wL ds ++ [.str d.s] from List.map_append]
      rfl
  · obtain ⟨ds, SS, S, s7, s8, s9, s10, s11, s12, s13, s14, s15, hl, W, hS, rfl⟩ := hI
    obtain ⟨S1, e1, hSp, e3⟩ := W.last
    rw [hl, hS] at e1
    cases e1
    have hlen : 2 ≤ ds.length := by omega
    have hlW : (wL ds).length = ds.length := List.length_map _
    refine run_frz (i := 5) rfl (run_frz (i := 6) rfl ?_)
    refine run_seq (run_setO (evo_listL (evl_d (evd_var rfl))) fun a11 => run_frz (i := 11) rfl ?_)
    have nsL : noS (.list (wL ds)) = true := noX_wL ds
    refine run_seq (run_if (b := false) (evt_eq (evt_or (a := false) (b := false) (evt_eq (evt_not (a := true) (evt_B (evr (evd_eq (evd_call (S, S) (eva_cons (evd_call (fl w h, iT S0, .list (wL ds)) (eva_cons (evd_var rfl) (eva_cons (evd_var rfl) (eva_cons (evd_var rfl) eva_nil))) ⟨rfl, noX_iT S0, nsL⟩ (mvO S0 S _ hp e3)) (eva_cons (evd_var rfl) eva_nil)) (lTm S hSp) rfl) (congrArg PyData.bool (decide_eq_true rfl)))))) rfl) fun _ => evt_eq (evt_or (a := false) (b := false) (evt_eq (evt_test (evr (evd_neD (evr (evd_var rfl)) (evr (evd_var rfl)) (okDrs ds) (okDrs ds)))) (by rw [eqv_drs, decide_eq_true rfl]; rfl)) fun _ => evt_eq (evt_test (evr (evd_neD (evr (evd_call (fl w h, iT S0, .list []) (eva_cons (evd_var rfl) (eva_cons (evd_var rfl) (eva_cons (evd_own (evo_lst eva_nil (lenOk rfl))) eva_nil))) ⟨rfl, noX_iT S0, rfl⟩ (mvO S0 S0 [] hp rfl))) (evr (evd_var rfl)) (okIntsT S0) (okIntsT S0)))) (by rw [eqv_iT, decide_eq_true rfl]; rfl)) rfl) rfl) (fun z => nomatch z) fun _ => run_next ?_)
    have hA : (drawI ns 20).toNat % ds.length < ds.length := Nat.mod_lt _ (by omega)
    refine run_seq (run_set (d := .int (((drawI ns 20).toNat % ds.length : Nat) : Int)) (evd_eq (evd_mod (evr (evd_eq (evd_call (ns, 20) (eva_cons (evd_var rfl) (eva_cons evd_int eva_nil)) (dr 20 (by decide) (by decide)) rfl) (congrArg PyData.int (draw_nn _ _)))) (evr (evd_lenL (evr (evd_var rfl)))) (show (0 : Int) < (((wL ds).length : Nat) : Int) by rw [hlW]; omega)) (by rw [hlW]; rfl)) ?_)
    generalize (drawI ns 20).toNat % ds.length = A at hA
    obtain ⟨SA, hSA, hSAp, hSAm⟩ := W.at_ A (by omega)
    have hlSS : (SS.map iT).length = ds.length + 1 := by rw [List.length_map, W.len]
    refine run_seq (run_setO (evo_lcT (xs := drs) (g := fun d => .str d.s) (fun d => !decide (d.s ∈ (wdsAt w h (SA.idxOf 0)).map Dr.s)) (fun d => .str d.s) (evd_eq (evd_tup (eva_cons evd_str (eva_cons evd_str (eva_cons evd_str (eva_cons evd_str eva_nil)))) (lenOk rfl)) rfl) rfl rfl (by decide) (fun d _ => evt_test (evr (evd_ninL (zs := (wdsAt w h (SA.idxOf 0)).map Dr.s) (evr (evd_var rfl)) (evl_o (evo_eq (evo_call (w, h, SA) (eva_cons (evd_var rfl) (eva_cons (evd_ix (xs := SS.map iT) (n := A) (evl_d (evd_var rfl)) (evr (evd_var rfl)) (ixN_of rfl (by rw [hlSS]; omega)) (by rw [List.getElem?_map, hSA]; rfl)) eva_nil)) ⟨f, hSAp⟩ rfl) (by rw [List.map_map]; rfl)))))) fun d _ _ => evd_var rfl) fun a13 => ?_)
    show Run K mg E _ [some (.d (scrD ns)), some (.d (.int N)), some (.d (fl w h)), some (.d (iT S0)), some (.d (iT S)), some (.d (.list (wL ds))), some (.d (.list (SS.map iT))), s7, s8, s9, s10, some (.d (.list (wL ds))), some (.d (.int A)), some (.l a13 (wL (cantW w h (SA.idxOf 0)))), s14, s15] _
    have hC4 : (cantW w h (SA.idxOf 0)).length ≤ 4 := List.length_filter_le _ _
    have hCO : ∀ d ∈ wL (cantW w h (SA.idxOf 0)) ++ oddW, mv1 w h SA d = none ∧ isX d = false := fun d hd => by
      rcases List.mem_append.mp hd with h1 | h1
      · obtain ⟨r, hr, rfl⟩ := List.mem_map.mp h1
        exact ⟨cant_mv hr, rfl⟩
      · exact oddW_mv w h SA h1
    generalize cantW w h (SA.idxOf 0) = C at hC4 hCO
    have hCl : (wL C).length = C.length := List.length_map _
    have hCol : (wL C ++ oddW).length = C.length + 8 := by rw [List.length_append, hCl]; rfl
    have hB : (drawI ns 21).toNat % (C.length + 8) < (wL C ++ oddW).length := by rw [hCol]; exact Nat.mod_lt _ (by omega)
    refine run_seq (run_set (d := (wL C ++ oddW)[(drawI ns 21).toNat % (C.length + 8)]) (evd_ix (xs := wL C ++ oddW) (n := (drawI ns 21).toNat % (C.length + 8)) (evl_o (evo_cat (evl_var rfl) (evl_o (evo_lst (ds := oddW) (eva_cons evd_str (eva_cons evd_str (eva_cons evd_non (eva_cons evd_int (eva_cons (evd_own (evo_lst (eva_cons evd_str eva_nil) (lenOk rfl))) (eva_cons (evd_tup (eva_cons evd_str eva_nil) (lenOk rfl)) (eva_cons evd_bl (eva_cons evd_str eva_nil)))))))) (lenOk rfl))) (by rw [hCl]; show C.length + 8 ≤ 100000; omega))) (evr (evd_mod (evr (evd_eq (evd_call (ns, 21) (eva_cons (evd_var rfl) (eva_cons evd_int eva_nil)) (dr 21 (by decide) (by decide)) rfl) (congrArg PyData.int (draw_nn _ _)))) (evr (evd_add (evr (evd_lenL (evr_own rfl))) (evr evd_int))) (show (0 : Int) < (((wL C).length : Nat) : Int) + 8 by omega))) (ixN_of (by rw [hCl]; rfl) hB) (List.getElem?_eq_getElem hB)) ?_)
    obtain ⟨o1, o2⟩ := hCO _ (List.getElem_mem hB)
    generalize (wL C ++ oddW)[(drawI ns 21).toNat % (C.length + 8)] = o at o1 o2
    have c1 : cutD (wL ds) none (some (A : Int)) = wL (ds.take A) := cut_take (fun d : Dr => PyData.str d.s) ds (by omega)
    have c2 : cutD (wL ds) (some (A : Int)) none = wL (ds.drop A) := cut_drop (fun d : Dr => PyData.str d.s) ds (by omega)
    have l1 : (wL (ds.take A)).length ≤ ds.length := by rw [List.length_map, List.length_take]; omega
    have l2 : (wL (ds.drop A)).length ≤ ds.length := by rw [List.length_map, List.length_drop]; omega
    have bad : mvs w h S0 (wL (ds.take A) ++ [o] ++ wL (ds.drop A)) = none := by
      rw [List.append_assoc, mvs_app, hSAm]
      show (mv1 w h SA o).bind _ = none
      rw [o1]; rfl
    have badX : noS (.list (wL (ds.take A) ++ [o] ++ wL (ds.drop A))) = true := by
      show ((wL (ds.take A) ++ [o] ++ wL (ds.drop A)).all fun x => !isX x) = true
      rw [List.all_append, List.all_append, noX_wL, noX_wL, List.all_cons, o2]; rfl
    refine run_seq (run_if (b := false) (evt_eq (evt_test (evr (evd_neD (evr_l (evl_o (evo_eq (evo_call ((w, h, S0), .list (wL (ds.take A) ++ [o] ++ wL (ds.drop A))) (eva_cons (evd_var rfl) (eva_cons (evd_var rfl) (eva_cons (evd_own (evo_cat (evl_o (evo_cat (evl_o (evo_eq (evo_slL (evd_var rfl) evi_none (evi_some (evr (evd_var rfl)))) c1)) (evl_o (evo_lst (eva_cons (evd_var rfl) eva_nil) (lenOk rfl))) (by rw [List.length_singleton]; omega))) (evl_o (evo_eq (evo_slL (evd_var rfl) (evi_some (evr (evd_var rfl))) evi_none) c2)) (by rw [List.length_append, List.length_singleton]; omega))) eva_nil))) ⟨⟨f, hp⟩, badX⟩ rfl) (by show refu2 (mvD (fl w h) (iT S0) _) = _; rw [mvD_eq, bad])))) (evr_l (evl_o (evo_lst (eva_cons evd_str eva_nil) (lenOk rfl)))) (by decide +kernel) (by decide +kernel)))) (by decide +kernel)) (fun z => nomatch z) fun _ => run_next ?_)
    have h6 : (drawI ns 22).toNat % 6 < 6 := Nat.mod_lt _ (by decide)
    have hd0 : ds[0]? = some ds[0] := List.getElem?_eq_getElem (by omega)
    have hx6 : ∀ d ∈ [PyData.tuple (wL ds), .none, .str "up", .int 5, .dict [], .str ds[0].s], noS d = true ∧ mvD (fl w h) (iT S0) d = none := fun d hd => by
      simp only [List.mem_cons, List.not_mem_nil, or_false] at hd
      rcases hd with rfl | rfl | rfl | rfl | rfl | rfl <;> exact ⟨rfl, rfl⟩
    refine run_seq (run_set (d := [PyData.tuple (wL ds), .none, .str "up", .int 5, .dict [], .str ds[0].s][(drawI ns 22).toNat % 6]) (evd_ix (n := (drawI ns 22).toNat % 6) (evl_o (evo_lst (eva_cons (evd_tupO (evl_d (evd_var rfl))) (eva_cons evd_non (eva_cons evd_str (eva_cons evd_int (eva_cons evd_dnew (eva_cons (evd_ix (n := 0) (d := .str ds[0].s) (evl_d (evd_var rfl)) (evr evd_int) (ixN_nat (n := (wL ds).length) (j := 0) (by rw [hlW]; omega)) (by rw [List.getElem?_map, hd0]; rfl)) eva_nil)))))) (lenOk rfl))) (evr (evd_mod (evr (evd_eq (evd_call (ns, 22) (eva_cons (evd_var rfl) (eva_cons evd_int eva_nil)) (dr 22 (by decide) (by decide)) rfl) (congrArg PyData.int (draw_nn _ _)))) (evr evd_int) (by decide))) (ixN_of rfl h6) (List.getElem?_eq_getElem h6)) ?_)
    obtain ⟨x1, x2⟩ := hx6 _ (List.getElem_mem h6)
    generalize [PyData.tuple (wL ds), .none, .str "up", .int 5, .dict [], .str ds[0].s][(drawI ns 22).toNat % 6] = x at x1 x2
    refine run_ret (evd_eq (evd_eqD (evr_l (evl_o (evo_eq (evo_call ((w, h, S0), x) (eva_cons (evd_var rfl) (eva_cons (evd_var rfl) (eva_cons (evd_var rfl) eva_nil))) ⟨⟨f, hp⟩, x1⟩ rfl) (by show refu2 (mvD (fl w h) (iT S0) x) = _; rw [x2])))) (evr_l (evl_o (evo_lst (eva_cons evd_str eva_nil) (lenOk rfl)))) (by decide +kernel) (by decide +kernel)) (d' := .bool true) (congrArg PyData.bool (by decide +kernel))) rfl

end
theorem all_mk {l : PySem.W.OpenLaw} {w : World} {K : PySem.W.Frag} {h : Heap} {mg : Str → Option Value} {fa : Addr} (X : K.In h) (G : h.Ns PySem.mainGlobals mg) (hfa : mg "law" = some (.ref fa))
    {A_SlideError A_BadFloor A_BadStanding A_BadMove A_BadNumber A_BadText A_TooMany A_NothingDone f_law_draw f_law_floor f_law_standing f_law_moved f_law_words f_is_among f_is_floor f_need_floor f_is_standing f_need_standing f_place_beside f_words_at f_moves f_law_word f_slid f_is_move f_moved f_law_refused f_law_whole f_law_is f_law : Addr} {od_law_draw an_law_draw od_law_floor an_law_floor od_law_standing an_law_standing od_law_moved an_law_moved od_law_words an_law_words od_is_among an_is_among od_is_floor an_is_floor od_need_floor an_need_floor od_is_standing an_is_standing od_need_standing an_need_standing od_place_beside an_place_beside od_words_at an_words_at od_moves an_moves od_law_word an_law_word od_slid an_slid od_is_move an_is_move od_moved an_moved od_law_refused an_law_refused od_law_whole an_law_whole od_law_is an_law_is od_law an_law : Option Addr} {sl_law_draw sl_law_floor sl_law_standing sl_law_moved sl_law_words sl_is_among sl_is_floor sl_need_floor sl_is_standing sl_need_standing sl_place_beside sl_words_at sl_moves sl_law_word sl_slid sl_is_move sl_moved sl_law_refused sl_law_whole sl_law_is sl_law : Array (Option Value)} {oc_law_draw kV_law_draw dc_law_draw pm_law_draw cd_law_draw ct_law_draw oc_law_floor kV_law_floor dc_law_floor pm_law_floor cd_law_floor ct_law_floor oc_law_standing kV_law_standing dc_law_standing pm_law_standing cd_law_standing ct_law_standing oc_law_moved kV_law_moved dc_law_moved pm_law_moved cd_law_moved ct_law_moved oc_law_words kV_law_words dc_law_words pm_law_words cd_law_words ct_law_words oc_is_among kV_is_among dc_is_among pm_is_among cd_is_among ct_is_among oc_is_floor kV_is_floor dc_is_floor pm_is_floor cd_is_floor ct_is_floor oc_need_floor kV_need_floor dc_need_floor pm_need_floor cd_need_floor ct_need_floor oc_is_standing kV_is_standing dc_is_standing pm_is_standing cd_is_standing ct_is_standing oc_need_standing kV_need_standing dc_need_standing pm_need_standing cd_need_standing ct_need_standing oc_place_beside kV_place_beside dc_place_beside pm_place_beside cd_place_beside ct_place_beside oc_words_at kV_words_at dc_words_at pm_words_at cd_words_at ct_words_at oc_moves kV_moves dc_moves pm_moves cd_moves ct_moves oc_law_word kV_law_word dc_law_word pm_law_word cd_law_word ct_law_word oc_slid kV_slid dc_slid pm_slid cd_slid ct_slid oc_is_move kV_is_move dc_is_move pm_is_move cd_is_move ct_is_move oc_moved kV_moved dc_moved pm_moved cd_moved ct_moved oc_law_refused kV_law_refused dc_law_refused pm_law_refused cd_law_refused ct_law_refused oc_law_whole kV_law_whole dc_law_whole pm_law_whole cd_law_whole ct_law_whole oc_law_is kV_law_is dc_law_is pm_law_is cd_law_is ct_law_is oc_law kV_law dc_law pm_law cd_law ct_law : Value} {B_WORDS B_FROM B_FROM_up B_FROM_down B_FROM_left B_FROM_right : Addr} {n_WORDS n_FROM n_FROM_up n_FROM_down n_FROM_left n_FROM_right : Nat} {sq_WORDS sq_FROM_up sq_FROM_down sq_FROM_left sq_FROM_right : Array (Option Value)} {es_FROM : Array DictEntry} {tk_MOST_SIDE u_WORDS_0 u_WORDS_1 u_WORDS_2 u_WORDS_3 u_FROM_up_0 u_FROM_up_1 u_FROM_down_0 u_FROM_down_1 u_FROM_left_0 u_FROM_left_1 u_FROM_right_0 u_FROM_right_1 : Tok}
    (a_SlideError : PySem.W.nsIn K PySem.mainGlobals "SlideError" = some (some (.ref A_SlideError)))
    (a_BadFloor : PySem.W.nsIn K PySem.mainGlobals "BadFloor" = some (some (.ref A_BadFloor)))
    (a_BadStanding : PySem.W.nsIn K PySem.mainGlobals "BadStanding" = some (some (.ref A_BadStanding)))
    (a_BadMove : PySem.W.nsIn K PySem.mainGlobals "BadMove" = some (some (.ref A_BadMove)))
    (a_BadNumber : PySem.W.nsIn K PySem.mainGlobals "BadNumber" = some (some (.ref A_BadNumber)))
    (a_BadText : PySem.W.nsIn K PySem.mainGlobals "BadText" = some (some (.ref A_BadText)))
    (a_TooMany : PySem.W.nsIn K PySem.mainGlobals "TooMany" = some (some (.ref A_TooMany)))
    (a_NothingDone : PySem.W.nsIn K PySem.mainGlobals "NothingDone" = some (some (.ref A_NothingDone)))
    (a_law_draw : PySem.W.nsIn K PySem.mainGlobals "_law_draw" = some (some (.ref f_law_draw)))
    (l_law_draw : K.lookup f_law_draw = some ⟨oc_law_draw, od_law_draw, .func (PySem.W.fnOf "_law_draw" "_law_draw" (defArgs s_law_draw) (defBody s_law_draw) (defScope s_law_draw) .none kV_law_draw dc_law_draw pm_law_draw an_law_draw cd_law_draw ct_law_draw), sl_law_draw⟩)
    (cc_law_draw : PySem.W.codeIn K cd_law_draw "_law_draw" = true)
    (k_law_draw : PySem.W.keepIn K (.ref f_law_draw) = true)
    (a_law_floor : PySem.W.nsIn K PySem.mainGlobals "_law_floor" = some (some (.ref f_law_floor)))
    (l_law_floor : K.lookup f_law_floor = some ⟨oc_law_floor, od_law_floor, .func (PySem.W.fnOf "_law_floor" "_law_floor" (defArgs s_law_floor) (defBody s_law_floor) (defScope s_law_floor) .none kV_law_floor dc_law_floor pm_law_floor an_law_floor cd_law_floor ct_law_floor), sl_law_floor⟩)
    (cc_law_floor : PySem.W.codeIn K cd_law_floor "_law_floor" = true)
    (k_law_floor : PySem.W.keepIn K (.ref f_law_floor) = true)
    (a_law_standing : PySem.W.nsIn K PySem.mainGlobals "_law_standing" = some (some (.ref f_law_standing)))
    (l_law_standing : K.lookup f_law_standing = some ⟨oc_law_standing, od_law_standing, .func (PySem.W.fnOf "_law_standing" "_law_standing" (defArgs s_law_standing) (defBody s_law_standing) (defScope s_law_standing) .none kV_law_standing dc_law_standing pm_law_standing an_law_standing cd_law_standing ct_law_standing), sl_law_standing⟩)
    (cc_law_standing : PySem.W.codeIn K cd_law_standing "_law_standing" = true)
    (k_law_standing : PySem.W.keepIn K (.ref f_law_standing) = true)
    (a_law_moved : PySem.W.nsIn K PySem.mainGlobals "_law_moved" = some (some (.ref f_law_moved)))
    (l_law_moved : K.lookup f_law_moved = some ⟨oc_law_moved, od_law_moved, .func (PySem.W.fnOf "_law_moved" "_law_moved" (defArgs s_law_moved) (defBody s_law_moved) (defScope s_law_moved) .none kV_law_moved dc_law_moved pm_law_moved an_law_moved cd_law_moved ct_law_moved), sl_law_moved⟩)
    (cc_law_moved : PySem.W.codeIn K cd_law_moved "_law_moved" = true)
    (k_law_moved : PySem.W.keepIn K (.ref f_law_moved) = true)
    (a_law_words : PySem.W.nsIn K PySem.mainGlobals "_law_words" = some (some (.ref f_law_words)))
    (l_law_words : K.lookup f_law_words = some ⟨oc_law_words, od_law_words, .func (PySem.W.fnOf "_law_words" "_law_words" (defArgs s_law_words) (defBody s_law_words) (defScope s_law_words) .none kV_law_words dc_law_words pm_law_words an_law_words cd_law_words ct_law_words), sl_law_words⟩)
    (cc_law_words : PySem.W.codeIn K cd_law_words "_law_words" = true)
    (k_law_words : PySem.W.keepIn K (.ref f_law_words) = true)
    (a_is_among : PySem.W.nsIn K PySem.mainGlobals "is_among" = some (some (.ref f_is_among)))
    (l_is_among : K.lookup f_is_among = some ⟨oc_is_among, od_is_among, .func (PySem.W.fnOf "is_among" "is_among" (defArgs s_is_among) (defBody s_is_among) (defScope s_is_among) .none kV_is_among dc_is_among pm_is_among an_is_among cd_is_among ct_is_among), sl_is_among⟩)
    (cc_is_among : PySem.W.codeIn K cd_is_among "is_among" = true)
    (k_is_among : PySem.W.keepIn K (.ref f_is_among) = true)
    (a_is_floor : PySem.W.nsIn K PySem.mainGlobals "is_floor" = some (some (.ref f_is_floor)))
    (l_is_floor : K.lookup f_is_floor = some ⟨oc_is_floor, od_is_floor, .func (PySem.W.fnOf "is_floor" "is_floor" (defArgs s_is_floor) (defBody s_is_floor) (defScope s_is_floor) .none kV_is_floor dc_is_floor pm_is_floor an_is_floor cd_is_floor ct_is_floor), sl_is_floor⟩)
    (cc_is_floor : PySem.W.codeIn K cd_is_floor "is_floor" = true)
    (k_is_floor : PySem.W.keepIn K (.ref f_is_floor) = true)
    (a_need_floor : PySem.W.nsIn K PySem.mainGlobals "need_floor" = some (some (.ref f_need_floor)))
    (l_need_floor : K.lookup f_need_floor = some ⟨oc_need_floor, od_need_floor, .func (PySem.W.fnOf "need_floor" "need_floor" (defArgs s_need_floor) (defBody s_need_floor) (defScope s_need_floor) .none kV_need_floor dc_need_floor pm_need_floor an_need_floor cd_need_floor ct_need_floor), sl_need_floor⟩)
    (cc_need_floor : PySem.W.codeIn K cd_need_floor "need_floor" = true)
    (k_need_floor : PySem.W.keepIn K (.ref f_need_floor) = true)
    (a_is_standing : PySem.W.nsIn K PySem.mainGlobals "is_standing" = some (some (.ref f_is_standing)))
    (l_is_standing : K.lookup f_is_standing = some ⟨oc_is_standing, od_is_standing, .func (PySem.W.fnOf "is_standing" "is_standing" (defArgs s_is_standing) (defBody s_is_standing) (defScope s_is_standing) .none kV_is_standing dc_is_standing pm_is_standing an_is_standing cd_is_standing ct_is_standing), sl_is_standing⟩)
    (cc_is_standing : PySem.W.codeIn K cd_is_standing "is_standing" = true)
    (k_is_standing : PySem.W.keepIn K (.ref f_is_standing) = true)
    (a_need_standing : PySem.W.nsIn K PySem.mainGlobals "need_standing" = some (some (.ref f_need_standing)))
    (l_need_standing : K.lookup f_need_standing = some ⟨oc_need_standing, od_need_standing, .func (PySem.W.fnOf "need_standing" "need_standing" (defArgs s_need_standing) (defBody s_need_standing) (defScope s_need_standing) .none kV_need_standing dc_need_standing pm_need_standing an_need_standing cd_need_standing ct_need_standing), sl_need_standing⟩)
    (cc_need_standing : PySem.W.codeIn K cd_need_standing "need_standing" = true)
    (k_need_standing : PySem.W.keepIn K (.ref f_need_standing) = true)
    (a_place_beside : PySem.W.nsIn K PySem.mainGlobals "place_beside" = some (some (.ref f_place_beside)))
    (l_place_beside : K.lookup f_place_beside = some ⟨oc_place_beside, od_place_beside, .func (PySem.W.fnOf "place_beside" "place_beside" (defArgs s_place_beside) (defBody s_place_beside) (defScope s_place_beside) .none kV_place_beside dc_place_beside pm_place_beside an_place_beside cd_place_beside ct_place_beside), sl_place_beside⟩)
    (cc_place_beside : PySem.W.codeIn K cd_place_beside "place_beside" = true)
    (k_place_beside : PySem.W.keepIn K (.ref f_place_beside) = true)
    (a_words_at : PySem.W.nsIn K PySem.mainGlobals "words_at" = some (some (.ref f_words_at)))
    (l_words_at : K.lookup f_words_at = some ⟨oc_words_at, od_words_at, .func (PySem.W.fnOf "words_at" "words_at" (defArgs s_words_at) (defBody s_words_at) (defScope s_words_at) .none kV_words_at dc_words_at pm_words_at an_words_at cd_words_at ct_words_at), sl_words_at⟩)
    (cc_words_at : PySem.W.codeIn K cd_words_at "words_at" = true)
    (k_words_at : PySem.W.keepIn K (.ref f_words_at) = true)
    (a_moves : PySem.W.nsIn K PySem.mainGlobals "moves" = some (some (.ref f_moves)))
    (l_moves : K.lookup f_moves = some ⟨oc_moves, od_moves, .func (PySem.W.fnOf "moves" "moves" (defArgs s_moves) (defBody s_moves) (defScope s_moves) .none kV_moves dc_moves pm_moves an_moves cd_moves ct_moves), sl_moves⟩)
    (cc_moves : PySem.W.codeIn K cd_moves "moves" = true)
    (k_moves : PySem.W.keepIn K (.ref f_moves) = true)
    (a_law_word : PySem.W.nsIn K PySem.mainGlobals "_law_word" = some (some (.ref f_law_word)))
    (l_law_word : K.lookup f_law_word = some ⟨oc_law_word, od_law_word, .func (PySem.W.fnOf "_law_word" "_law_word" (defArgs s_law_word) (defBody s_law_word) (defScope s_law_word) .none kV_law_word dc_law_word pm_law_word an_law_word cd_law_word ct_law_word), sl_law_word⟩)
    (cc_law_word : PySem.W.codeIn K cd_law_word "_law_word" = true)
    (k_law_word : PySem.W.keepIn K (.ref f_law_word) = true)
    (a_slid : PySem.W.nsIn K PySem.mainGlobals "slid" = some (some (.ref f_slid)))
    (l_slid : K.lookup f_slid = some ⟨oc_slid, od_slid, .func (PySem.W.fnOf "slid" "slid" (defArgs s_slid) (defBody s_slid) (defScope s_slid) .none kV_slid dc_slid pm_slid an_slid cd_slid ct_slid), sl_slid⟩)
    (cc_slid : PySem.W.codeIn K cd_slid "slid" = true)
    (k_slid : PySem.W.keepIn K (.ref f_slid) = true)
    (a_is_move : PySem.W.nsIn K PySem.mainGlobals "is_move" = some (some (.ref f_is_move)))
    (l_is_move : K.lookup f_is_move = some ⟨oc_is_move, od_is_move, .func (PySem.W.fnOf "is_move" "is_move" (defArgs s_is_move) (defBody s_is_move) (defScope s_is_move) .none kV_is_move dc_is_move pm_is_move an_is_move cd_is_move ct_is_move), sl_is_move⟩)
    (cc_is_move : PySem.W.codeIn K cd_is_move "is_move" = true)
    (k_is_move : PySem.W.keepIn K (.ref f_is_move) = true)
    (a_moved : PySem.W.nsIn K PySem.mainGlobals "moved" = some (some (.ref f_moved)))
    (l_moved : K.lookup f_moved = some ⟨oc_moved, od_moved, .func (PySem.W.fnOf "moved" "moved" (defArgs s_moved) (defBody s_moved) (defScope s_moved) .none kV_moved dc_moved pm_moved an_moved cd_moved ct_moved), sl_moved⟩)
    (cc_moved : PySem.W.codeIn K cd_moved "moved" = true)
    (k_moved : PySem.W.keepIn K (.ref f_moved) = true)
    (a_law_refused : PySem.W.nsIn K PySem.mainGlobals "_law_refused" = some (some (.ref f_law_refused)))
    (l_law_refused : K.lookup f_law_refused = some ⟨oc_law_refused, od_law_refused, .func (PySem.W.fnOf "_law_refused" "_law_refused" (defArgs s_law_refused) (defBody s_law_refused) (defScope s_law_refused) .none kV_law_refused dc_law_refused pm_law_refused an_law_refused cd_law_refused ct_law_refused), sl_law_refused⟩)
    (cc_law_refused : PySem.W.codeIn K cd_law_refused "_law_refused" = true)
    (k_law_refused : PySem.W.keepIn K (.ref f_law_refused) = true)
    (a_law_whole : PySem.W.nsIn K PySem.mainGlobals "_law_whole" = some (some (.ref f_law_whole)))
    (l_law_whole : K.lookup f_law_whole = some ⟨oc_law_whole, od_law_whole, .func (PySem.W.fnOf "_law_whole" "_law_whole" (defArgs s_law_whole) (defBody s_law_whole) (defScope s_law_whole) .none kV_law_whole dc_law_whole pm_law_whole an_law_whole cd_law_whole ct_law_whole), sl_law_whole⟩)
    (cc_law_whole : PySem.W.codeIn K cd_law_whole "_law_whole" = true)
    (k_law_whole : PySem.W.keepIn K (.ref f_law_whole) = true)
    (a_law_is : PySem.W.nsIn K PySem.mainGlobals "_law_is" = some (some (.ref f_law_is)))
    (l_law_is : K.lookup f_law_is = some ⟨oc_law_is, od_law_is, .func (PySem.W.fnOf "_law_is" "_law_is" (defArgs s_law_is) (defBody s_law_is) (defScope s_law_is) .none kV_law_is dc_law_is pm_law_is an_law_is cd_law_is ct_law_is), sl_law_is⟩)
    (cc_law_is : PySem.W.codeIn K cd_law_is "_law_is" = true)
    (k_law_is : PySem.W.keepIn K (.ref f_law_is) = true)
    (a_law : PySem.W.nsIn K PySem.mainGlobals "law" = some (some (.ref f_law)))
    (l_law : K.lookup f_law = some ⟨oc_law, od_law, .func (PySem.W.fnOf "law" "law" (defArgs s_law) (defBody s_law) (defScope s_law) .none kV_law dc_law pm_law an_law cd_law ct_law), sl_law⟩)
    (cc_law : PySem.W.codeIn K cd_law "law" = true)
    (k_law : PySem.W.keepIn K (.ref f_law) = true)
    (z_len : PySem.W.nsIn K PySem.mainGlobals "len" = some none)
    (z_isinstance : PySem.W.nsIn K PySem.mainGlobals "isinstance" = some none)
    (z_all : PySem.W.nsIn K PySem.mainGlobals "all" = some none)
    (z_sorted : PySem.W.nsIn K PySem.mainGlobals "sorted" = some none)
    (z_list : PySem.W.nsIn K PySem.mainGlobals "list" = some none)
    (z_tuple : PySem.W.nsIn K PySem.mainGlobals "tuple" = some none)
    (z_range : PySem.W.nsIn K PySem.mainGlobals "range" = some none)
    (z_sum : PySem.W.nsIn K PySem.mainGlobals "sum" = some none)
    (z_int : PySem.W.nsIn K PySem.mainGlobals "int" = some none)
    (z_bool : PySem.W.nsIn K PySem.mainGlobals "bool" = some none)
    (z_str : PySem.W.nsIn K PySem.mainGlobals "str" = some none)
    (z_min : PySem.W.nsIn K PySem.mainGlobals "min" = some none)
    (z_max : PySem.W.nsIn K PySem.mainGlobals "max" = some none)
    (z_abs : PySem.W.nsIn K PySem.mainGlobals "abs" = some none)
    (z_enumerate : PySem.W.nsIn K PySem.mainGlobals "enumerate" = some none)
    (z_ValueError : PySem.W.nsIn K PySem.mainGlobals "ValueError" = some none)
    (v_MOST_SIDE : PySem.W.nsIn K PySem.mainGlobals "MOST_SIDE" = some (some (.int 4 tk_MOST_SIDE)))
    (a_WORDS : PySem.W.nsIn K PySem.mainGlobals "WORDS" = some (some (.ref B_WORDS)))
    (l_WORDS : K.lookup B_WORDS = some ⟨.type "tuple", none, .seq #[(.str "up" u_WORDS_0), (.str "down" u_WORDS_1), (.str "left" u_WORDS_2), (.str "right" u_WORDS_3)] n_WORDS, sq_WORDS⟩)
    (a_FROM : PySem.W.nsIn K PySem.mainGlobals "FROM" = some (some (.ref B_FROM)))
    (l_FROM : K.lookup B_FROM = some ⟨.type "dict", none, .dict es_FROM n_FROM, #[]⟩)
    (kl_FROM : PySem.W.KeysLit w.params es_FROM.toList /-4-/)
    (v_FROM_up : PySem.W.nsIn K B_FROM "up" = some (some (.ref B_FROM_up)))
    (l_FROM_up : K.lookup B_FROM_up = some ⟨.type "tuple", none, .seq #[(.int 0 u_FROM_up_0), (.int 1 u_FROM_up_1)] n_FROM_up, sq_FROM_up⟩)
    (v_FROM_down : PySem.W.nsIn K B_FROM "down" = some (some (.ref B_FROM_down)))
    (l_FROM_down : K.lookup B_FROM_down = some ⟨.type "tuple", none, .seq #[(.int 0 u_FROM_down_0), (.int (-1) u_FROM_down_1)] n_FROM_down, sq_FROM_down⟩)
    (v_FROM_left : PySem.W.nsIn K B_FROM "left" = some (some (.ref B_FROM_left)))
    (l_FROM_left : K.lookup B_FROM_left = some ⟨.type "tuple", none, .seq #[(.int 1 u_FROM_left_0), (.int 0 u_FROM_left_1)] n_FROM_left, sq_FROM_left⟩)
    (v_FROM_right : PySem.W.nsIn K B_FROM "right" = some (some (.ref B_FROM_right)))
    (l_FROM_right : K.lookup B_FROM_right = some ⟨.type "tuple", none, .seq #[(.int (-1) u_FROM_right_0), (.int 0 u_FROM_right_1)] n_FROM_right, sq_FROM_right⟩)
    (x_SlideError : PySem.W.excIn K A_SlideError [.type "ValueError", .type "Exception", .type "BaseException", .type "object"] "ValueError.__new__" = true)
    (xk_SlideError : PySem.W.keepIn K (.ref A_SlideError) = true)
    (xb_SlideError : PySem.W.subIn K (.ref A_SlideError) (.type "BaseException") = some true)
    (xt_SlideError : PySem.W.typeIn K (.ref A_SlideError) = some (.type "type"))
    (x_BadFloor : PySem.W.excIn K A_BadFloor [.type "ValueError", .type "Exception", .type "BaseException", .type "object"] "ValueError.__new__" = true)
    (xk_BadFloor : PySem.W.keepIn K (.ref A_BadFloor) = true)
    (xb_BadFloor : PySem.W.subIn K (.ref A_BadFloor) (.type "BaseException") = some true)
    (xt_BadFloor : PySem.W.typeIn K (.ref A_BadFloor) = some (.type "type"))
    (x_BadStanding : PySem.W.excIn K A_BadStanding [.type "ValueError", .type "Exception", .type "BaseException", .type "object"] "ValueError.__new__" = true)
    (xk_BadStanding : PySem.W.keepIn K (.ref A_BadStanding) = true)
    (xb_BadStanding : PySem.W.subIn K (.ref A_BadStanding) (.type "BaseException") = some true)
    (xt_BadStanding : PySem.W.typeIn K (.ref A_BadStanding) = some (.type "type"))
    (x_BadMove : PySem.W.excIn K A_BadMove [.type "ValueError", .type "Exception", .type "BaseException", .type "object"] "ValueError.__new__" = true)
    (xk_BadMove : PySem.W.keepIn K (.ref A_BadMove) = true)
    (xb_BadMove : PySem.W.subIn K (.ref A_BadMove) (.type "BaseException") = some true)
    (xt_BadMove : PySem.W.typeIn K (.ref A_BadMove) = some (.type "type"))
    (x_BadNumber : PySem.W.excIn K A_BadNumber [.type "ValueError", .type "Exception", .type "BaseException", .type "object"] "ValueError.__new__" = true)
    (xk_BadNumber : PySem.W.keepIn K (.ref A_BadNumber) = true)
    (xb_BadNumber : PySem.W.subIn K (.ref A_BadNumber) (.type "BaseException") = some true)
    (xt_BadNumber : PySem.W.typeIn K (.ref A_BadNumber) = some (.type "type"))
    (x_BadText : PySem.W.excIn K A_BadText [.type "ValueError", .type "Exception", .type "BaseException", .type "object"] "ValueError.__new__" = true)
    (xk_BadText : PySem.W.keepIn K (.ref A_BadText) = true)
    (xb_BadText : PySem.W.subIn K (.ref A_BadText) (.type "BaseException") = some true)
    (xt_BadText : PySem.W.typeIn K (.ref A_BadText) = some (.type "type"))
    (x_TooMany : PySem.W.excIn K A_TooMany [.type "ValueError", .type "Exception", .type "BaseException", .type "object"] "ValueError.__new__" = true)
    (xk_TooMany : PySem.W.keepIn K (.ref A_TooMany) = true)
    (xb_TooMany : PySem.W.subIn K (.ref A_TooMany) (.type "BaseException") = some true)
    (xt_TooMany : PySem.W.typeIn K (.ref A_TooMany) = some (.type "type"))
    (x_NothingDone : PySem.W.excIn K A_NothingDone [.type "ValueError", .type "Exception", .type "BaseException", .type "object"] "ValueError.__new__" = true)
    (xk_NothingDone : PySem.W.keepIn K (.ref A_NothingDone) = true)
    (xb_NothingDone : PySem.W.subIn K (.ref A_NothingDone) (.type "BaseException") = some true)
    (xt_NothingDone : PySem.W.typeIn K (.ref A_NothingDone) = some (.type "type"))
    (xhn : PySem.W.specialIn K (.builtin "object.__class__") "__get__" = some (some (.builtin "getset_descriptor.__get__")))
    (xht : PySem.W.takesIn K (.builtin "object.__class__") = some true)
    (eg_BadFloor : PySem.W.findIn K (.ref A_BadFloor) "__getattribute__" = some (some (.builtin "BaseException.__getattribute__")))
    (ek_BadFloor : PySem.W.findIn K (.ref A_BadFloor) "__getattr__" = some none)
    (ed_BadFloor : PySem.W.hasDictIn K A_BadFloor = true)
    (ea_BadFloor : PySem.W.findIn K (.ref A_BadFloor) "__class__" = some (some (.builtin "object.__class__")))
    (em_BadFloor : PySem.W.mroIn K A_BadFloor (.type "object") = some true)
    (mm_BadFloor : PySem.W.exmOne K (.ref A_BadFloor) (.ref A_SlideError) = some true)
    (kk_BadFloor_SlideError : PySem.W.kitOne K (.ref A_BadFloor) (.ref A_SlideError) = some true)
    (kk_BadFloor_BadFloor : PySem.W.kitOne K (.ref A_BadFloor) (.ref A_BadFloor) = some true)
    (kk_BadFloor_BadStanding : PySem.W.kitOne K (.ref A_BadFloor) (.ref A_BadStanding) = some false)
    (kk_BadFloor_BadMove : PySem.W.kitOne K (.ref A_BadFloor) (.ref A_BadMove) = some false)
    (kk_BadFloor_BadNumber : PySem.W.kitOne K (.ref A_BadFloor) (.ref A_BadNumber) = some false)
    (kk_BadFloor_BadText : PySem.W.kitOne K (.ref A_BadFloor) (.ref A_BadText) = some false)
    (kk_BadFloor_TooMany : PySem.W.kitOne K (.ref A_BadFloor) (.ref A_TooMany) = some false)
    (kk_BadFloor_NothingDone : PySem.W.kitOne K (.ref A_BadFloor) (.ref A_NothingDone) = some false)
    (kv_BadFloor : PySem.W.kitOne K (.ref A_BadFloor) (.type "ValueError") = some true)
    (eg_BadStanding : PySem.W.findIn K (.ref A_BadStanding) "__getattribute__" = some (some (.builtin "BaseException.__getattribute__")))
    (ek_BadStanding : PySem.W.findIn K (.ref A_BadStanding) "__getattr__" = some none)
    (ed_BadStanding : PySem.W.hasDictIn K A_BadStanding = true)
    (ea_BadStanding : PySem.W.findIn K (.ref A_BadStanding) "__class__" = some (some (.builtin "object.__class__")))
    (em_BadStanding : PySem.W.mroIn K A_BadStanding (.type "object") = some true)
    (mm_BadStanding : PySem.W.exmOne K (.ref A_BadStanding) (.ref A_SlideError) = some true)
    (kk_BadStanding_SlideError : PySem.W.kitOne K (.ref A_BadStanding) (.ref A_SlideError) = some true)
    (kk_BadStanding_BadFloor : PySem.W.kitOne K (.ref A_BadStanding) (.ref A_BadFloor) = some false)
    (kk_BadStanding_BadStanding : PySem.W.kitOne K (.ref A_BadStanding) (.ref A_BadStanding) = some true)
    (kk_BadStanding_BadMove : PySem.W.kitOne K (.ref A_BadStanding) (.ref A_BadMove) = some false)
    (kk_BadStanding_BadNumber : PySem.W.kitOne K (.ref A_BadStanding) (.ref A_BadNumber) = some false)
    (kk_BadStanding_BadText : PySem.W.kitOne K (.ref A_BadStanding) (.ref A_BadText) = some false)
    (kk_BadStanding_TooMany : PySem.W.kitOne K (.ref A_BadStanding) (.ref A_TooMany) = some false)
    (kk_BadStanding_NothingDone : PySem.W.kitOne K (.ref A_BadStanding) (.ref A_NothingDone) = some false)
    (kv_BadStanding : PySem.W.kitOne K (.ref A_BadStanding) (.type "ValueError") = some true)
    (eg_BadMove : PySem.W.findIn K (.ref A_BadMove) "__getattribute__" = some (some (.builtin "BaseException.__getattribute__")))
    (ek_BadMove : PySem.W.findIn K (.ref A_BadMove) "__getattr__" = some none)
    (ed_BadMove : PySem.W.hasDictIn K A_BadMove = true)
    (ea_BadMove : PySem.W.findIn K (.ref A_BadMove) "__class__" = some (some (.builtin "object.__class__")))
    (em_BadMove : PySem.W.mroIn K A_BadMove (.type "object") = some true)
    (mm_BadMove : PySem.W.exmOne K (.ref A_BadMove) (.ref A_SlideError) = some true)
    (kk_BadMove_SlideError : PySem.W.kitOne K (.ref A_BadMove) (.ref A_SlideError) = some true)
    (kk_BadMove_BadFloor : PySem.W.kitOne K (.ref A_BadMove) (.ref A_BadFloor) = some false)
    (kk_BadMove_BadStanding : PySem.W.kitOne K (.ref A_BadMove) (.ref A_BadStanding) = some false)
    (kk_BadMove_BadMove : PySem.W.kitOne K (.ref A_BadMove) (.ref A_BadMove) = some true)
    (kk_BadMove_BadNumber : PySem.W.kitOne K (.ref A_BadMove) (.ref A_BadNumber) = some false)
    (kk_BadMove_BadText : PySem.W.kitOne K (.ref A_BadMove) (.ref A_BadText) = some false)
    (kk_BadMove_TooMany : PySem.W.kitOne K (.ref A_BadMove) (.ref A_TooMany) = some false)
    (kk_BadMove_NothingDone : PySem.W.kitOne K (.ref A_BadMove) (.ref A_NothingDone) = some false)
    (kv_BadMove : PySem.W.kitOne K (.ref A_BadMove) (.type "ValueError") = some true)
    (kn_SlideError : PySem.W.kitOne K (.type "NoneType") (.ref A_SlideError) = some false)
    (kn_BadFloor : PySem.W.kitOne K (.type "NoneType") (.ref A_BadFloor) = some false)
    (kn_BadStanding : PySem.W.kitOne K (.type "NoneType") (.ref A_BadStanding) = some false)
    (kn_BadMove : PySem.W.kitOne K (.type "NoneType") (.ref A_BadMove) = some false)
    (kn_BadNumber : PySem.W.kitOne K (.type "NoneType") (.ref A_BadNumber) = some false)
    (kn_BadText : PySem.W.kitOne K (.type "NoneType") (.ref A_BadText) = some false)
    (kn_TooMany : PySem.W.kitOne K (.type "NoneType") (.ref A_TooMany) = some false)
    (kn_NothingDone : PySem.W.kitOne K (.type "NoneType") (.ref A_NothingDone) = some false)
    : ∃ fd : FuncData, (∀ (s : Shared) (v : Value), PySem.BindsTo s fd ⟨[v], []⟩ [("_law_script", v)]) ∧ ∀ base : Heap, K.In base → base.Ns PySem.mainGlobals mg → FnOk l.prog w K mg base (L2.CX l.prog w) 7 fa fd ["_law_script"] (sp_law K fun _ => none) := by
  have e := hfa.symm.trans (PySem.W.mg_of X G a_law)
  cases e
  have T : Txt w K mg { SlideError := A_SlideError, BadFloor := A_BadFloor, BadStanding := A_BadStanding, BadMove := A_BadMove, BadNumber := A_BadNumber, BadText := A_BadText, TooMany := A_TooMany, NothingDone := A_NothingDone, a_WORDS := B_WORDS, a_FROM := B_FROM, z := 0 } := { len := PySem.W.mg_none_of X G z_len, isinstance := PySem.W.mg_none_of X G z_isinstance, all := PySem.W.mg_none_of X G z_all, sorted := PySem.W.mg_none_of X G z_sorted, list := PySem.W.mg_none_of X G z_list, tuple := PySem.W.mg_none_of X G z_tuple, range := PySem.W.mg_none_of X G z_range, sum := PySem.W.mg_none_of X G z_sum, int := PySem.W.mg_none_of X G z_int, bool := PySem.W.mg_none_of X G z_bool, str := PySem.W.mg_none_of X G z_str, min := PySem.W.mg_none_of X G z_min, max := PySem.W.mg_none_of X G z_max, abs := PySem.W.mg_none_of X G z_abs, enumerate := PySem.W.mg_none_of X G z_enumerate, ValueError := PySem.W.mg_none_of X G z_ValueError, c_MOST_SIDE := ⟨_, PySem.W.mg_of X G v_MOST_SIDE, ⟨_, rfl⟩⟩, c_WORDS := ⟨_, PySem.W.mg_of X G a_WORDS, rfl⟩, t_WORDS := is_tupK (vs := [(.str "up"), (.str "down"), (.str "left"), (.str "right")]) l_WORDS (by show 4 ≤ _; decide) (.cons ⟨_, rfl⟩ (.cons ⟨_, rfl⟩ (.cons ⟨_, rfl⟩ (.cons ⟨_, rfl⟩ .nil)))) (fun _ => (.cons (.str "up") (.cons (.str "down") (.cons (.str "left") (.cons (.str "right") .nil))))), c_FROM := ⟨_, PySem.W.mg_of X G a_FROM, rfl⟩, d_FROM := (kd_cons (v := .ref B_FROM_up) l_FROM kl_FROM v_FROM_up rfl (is_tupK (vs := [(.int (0)), (.int (1))]) l_FROM_up (by show 2 ≤ _; decide) (.cons ⟨_, rfl⟩ (.cons ⟨_, rfl⟩ .nil)) (fun _ => (.cons (.int (0)) (.cons (.int (1)) .nil)))) (kd_cons (v := .ref B_FROM_down) l_FROM kl_FROM v_FROM_down rfl (is_tupK (vs := [(.int (0)), (.int (-1))]) l_FROM_down (by show 2 ≤ _; decide) (.cons ⟨_, rfl⟩ (.cons ⟨_, rfl⟩ .nil)) (fun _ => (.cons (.int (0)) (.cons (.int (-1)) .nil)))) (kd_cons (v := .ref B_FROM_left) l_FROM kl_FROM v_FROM_left rfl (is_tupK (vs := [(.int (1)), (.int (0))]) l_FROM_left (by show 2 ≤ _; decide) (.cons ⟨_, rfl⟩ (.cons ⟨_, rfl⟩ .nil)) (fun _ => (.cons (.int (1)) (.cons (.int (0)) .nil)))) (kd_cons (v := .ref B_FROM_right) l_FROM kl_FROM v_FROM_right rfl (is_tupK (vs := [(.int (-1)), (.int (0))]) l_FROM_right (by show 2 ≤ _; decide) (.cons ⟨_, rfl⟩ (.cons ⟨_, rfl⟩ .nil)) (fun _ => (.cons (.int (-1)) (.cons (.int (0)) .nil)))) kd_nil)))), x_SlideError := ⟨PySem.W.mg_of X G a_SlideError, x_SlideError, xk_SlideError, xb_SlideError, xt_SlideError⟩, x_BadFloor := ⟨PySem.W.mg_of X G a_BadFloor, x_BadFloor, xk_BadFloor, xb_BadFloor, xt_BadFloor⟩, x_BadStanding := ⟨PySem.W.mg_of X G a_BadStanding, x_BadStanding, xk_BadStanding, xb_BadStanding, xt_BadStanding⟩, x_BadMove := ⟨PySem.W.mg_of X G a_BadMove, x_BadMove, xk_BadMove, xb_BadMove, xt_BadMove⟩, x_BadNumber := ⟨PySem.W.mg_of X G a_BadNumber, x_BadNumber, xk_BadNumber, xb_BadNumber, xt_BadNumber⟩, x_BadText := ⟨PySem.W.mg_of X G a_BadText, x_BadText, xk_BadText, xb_BadText, xt_BadText⟩, x_TooMany := ⟨PySem.W.mg_of X G a_TooMany, x_TooMany, xk_TooMany, xb_TooMany, xt_TooMany⟩, x_NothingDone := ⟨PySem.W.mg_of X G a_NothingDone, x_NothingDone, xk_NothingDone, xb_NothingDone, xt_NothingDone⟩, e_BadFloor := ⟨eg_BadFloor, ek_BadFloor, xb_BadFloor, ed_BadFloor, ea_BadFloor, xhn, xht, em_BadFloor⟩, m_BadFloor := mm_BadFloor, k_BadFloor_SlideError := kk_BadFloor_SlideError, k_BadFloor_BadFloor := kk_BadFloor_BadFloor, k_BadFloor_BadStanding := kk_BadFloor_BadStanding, k_BadFloor_BadMove := kk_BadFloor_BadMove, k_BadFloor_BadNumber := kk_BadFloor_BadNumber, k_BadFloor_BadText := kk_BadFloor_BadText, k_BadFloor_TooMany := kk_BadFloor_TooMany, k_BadFloor_NothingDone := kk_BadFloor_NothingDone, k_BadFloor_ValueError := kv_BadFloor, e_BadStanding := ⟨eg_BadStanding, ek_BadStanding, xb_BadStanding, ed_BadStanding, ea_BadStanding, xhn, xht, em_BadStanding⟩, m_BadStanding := mm_BadStanding, k_BadStanding_SlideError := kk_BadStanding_SlideError, k_BadStanding_BadFloor := kk_BadStanding_BadFloor, k_BadStanding_BadStanding := kk_BadStanding_BadStanding, k_BadStanding_BadMove := kk_BadStanding_BadMove, k_BadStanding_BadNumber := kk_BadStanding_BadNumber, k_BadStanding_BadText := kk_BadStanding_BadText, k_BadStanding_TooMany := kk_BadStanding_TooMany, k_BadStanding_NothingDone := kk_BadStanding_NothingDone, k_BadStanding_ValueError := kv_BadStanding, e_BadMove := ⟨eg_BadMove, ek_BadMove, xb_BadMove, ed_BadMove, ea_BadMove, xhn, xht, em_BadMove⟩, m_BadMove := mm_BadMove, k_BadMove_SlideError := kk_BadMove_SlideError, k_BadMove_BadFloor := kk_BadMove_BadFloor, k_BadMove_BadStanding := kk_BadMove_BadStanding, k_BadMove_BadMove := kk_BadMove_BadMove, k_BadMove_BadNumber := kk_BadMove_BadNumber, k_BadMove_BadText := kk_BadMove_BadText, k_BadMove_TooMany := kk_BadMove_TooMany, k_BadMove_NothingDone := kk_BadMove_NothingDone, k_BadMove_ValueError := kv_BadMove, n_SlideError := kn_SlideError, n_BadFloor := kn_BadFloor, n_BadStanding := kn_BadStanding, n_BadMove := kn_BadMove, n_BadNumber := kn_BadNumber, n_BadText := kn_BadText, n_TooMany := kn_TooMany, n_NothingDone := kn_NothingDone }
  have F_law_draw := fun_mk (st := s_law_draw) l_law_draw cc_law_draw k_law_draw
  have t_law_draw : At K mg "_law_draw" s_law_draw ["_law_script", "_law_k"] := ⟨_, _, F_law_draw, PySem.W.mg_of X G a_law_draw, F_law_draw.binds (ps := ["_law_script", "_law_k"]) fun _ _ _ _ _ _ us hl => match us, hl with | [_, _], _ => rfl⟩
  have F_law_floor := fun_mk (st := s_law_floor) l_law_floor cc_law_floor k_law_floor
  have t_law_floor : At K mg "_law_floor" s_law_floor ["_law_number"] := ⟨_, _, F_law_floor, PySem.W.mg_of X G a_law_floor, F_law_floor.binds (ps := ["_law_number"]) fun _ _ _ _ _ _ us hl => match us, hl with | [_], _ => rfl⟩
  have F_law_standing := fun_mk (st := s_law_standing) l_law_standing cc_law_standing k_law_standing
  have t_law_standing : At K mg "_law_standing" s_law_standing ["_law_script", "_law_k", "_law_floor_here"] := ⟨_, _, F_law_standing, PySem.W.mg_of X G a_law_standing, F_law_standing.binds (ps := ["_law_script", "_law_k", "_law_floor_here"]) fun _ _ _ _ _ _ us hl => match us, hl with | [_, _, _], _ => rfl⟩
  have F_law_moved := fun_mk (st := s_law_moved) l_law_moved cc_law_moved k_law_moved
  have t_law_moved : At K mg "_law_moved" s_law_moved ["_law_floor_here", "_law_standing_here", "_law_word_here"] := ⟨_, _, F_law_moved, PySem.W.mg_of X G a_law_moved, F_law_moved.binds (ps := ["_law_floor_here", "_law_standing_here", "_law_word_here"]) fun _ _ _ _ _ _ us hl => match us, hl with | [_, _, _], _ => rfl⟩
  have F_law_words := fun_mk (st := s_law_words) l_law_words cc_law_words k_law_words
  have t_law_words : At K mg "_law_words" s_law_words ["_law_floor_here", "_law_standing_here"] := ⟨_, _, F_law_words, PySem.W.mg_of X G a_law_words, F_law_words.binds (ps := ["_law_floor_here", "_law_standing_here"]) fun _ _ _ _ _ _ us hl => match us, hl with | [_, _], _ => rfl⟩
  have F_is_among := fun_mk (st := s_is_among) l_is_among cc_is_among k_is_among
  have t_is_among : At K mg "is_among" s_is_among ["thing", "least", "most"] := ⟨_, _, F_is_among, PySem.W.mg_of X G a_is_among, F_is_among.binds (ps := ["thing", "least", "most"]) fun _ _ _ _ _ _ us hl => match us, hl with | [_, _, _], _ => rfl⟩
  have F_is_floor := fun_mk (st := s_is_floor) l_is_floor cc_is_floor k_is_floor
  have t_is_floor : At K mg "is_floor" s_is_floor ["thing"] := ⟨_, _, F_is_floor, PySem.W.mg_of X G a_is_floor, F_is_floor.binds (ps := ["thing"]) fun _ _ _ _ _ _ us hl => match us, hl with | [_], _ => rfl⟩
  have F_need_floor := fun_mk (st := s_need_floor) l_need_floor cc_need_floor k_need_floor
  have t_need_floor : At K mg "need_floor" s_need_floor ["floor"] := ⟨_, _, F_need_floor, PySem.W.mg_of X G a_need_floor, F_need_floor.binds (ps := ["floor"]) fun _ _ _ _ _ _ us hl => match us, hl with | [_], _ => rfl⟩
  have F_is_standing := fun_mk (st := s_is_standing) l_is_standing cc_is_standing k_is_standing
  have t_is_standing : At K mg "is_standing" s_is_standing ["floor", "thing"] := ⟨_, _, F_is_standing, PySem.W.mg_of X G a_is_standing, F_is_standing.binds (ps := ["floor", "thing"]) fun _ _ _ _ _ _ us hl => match us, hl with | [_, _], _ => rfl⟩
  have F_need_standing := fun_mk (st := s_need_standing) l_need_standing cc_need_standing k_need_standing
  have t_need_standing : At K mg "need_standing" s_need_standing ["floor", "standing"] := ⟨_, _, F_need_standing, PySem.W.mg_of X G a_need_standing, F_need_standing.binds (ps := ["floor", "standing"]) fun _ _ _ _ _ _ us hl => match us, hl with | [_, _], _ => rfl⟩
  have F_place_beside := fun_mk (st := s_place_beside) l_place_beside cc_place_beside k_place_beside
  have t_place_beside : At K mg "place_beside" s_place_beside ["floor", "empty", "word"] := ⟨_, _, F_place_beside, PySem.W.mg_of X G a_place_beside, F_place_beside.binds (ps := ["floor", "empty", "word"]) fun _ _ _ _ _ _ us hl => match us, hl with | [_, _, _], _ => rfl⟩
  have F_words_at := fun_mk (st := s_words_at) l_words_at cc_words_at k_words_at
  have t_words_at : At K mg "words_at" s_words_at ["floor", "empty"] := ⟨_, _, F_words_at, PySem.W.mg_of X G a_words_at, F_words_at.binds (ps := ["floor", "empty"]) fun _ _ _ _ _ _ us hl => match us, hl with | [_, _], _ => rfl⟩
  have F_moves := fun_mk (st := s_moves) l_moves cc_moves k_moves
  have t_moves : At K mg "moves" s_moves ["floor", "standing"] := ⟨_, _, F_moves, PySem.W.mg_of X G a_moves, F_moves.binds (ps := ["floor", "standing"]) fun _ _ _ _ _ _ us hl => match us, hl with | [_, _], _ => rfl⟩
  have F_law_word := fun_mk (st := s_law_word) l_law_word cc_law_word k_law_word
  have t_law_word : At K mg "_law_word" s_law_word ["_law_e"] := ⟨_, _, F_law_word, PySem.W.mg_of X G a_law_word, F_law_word.binds (ps := ["_law_e"]) fun _ _ _ _ _ _ us hl => match us, hl with | [_], _ => rfl⟩
  have F_slid := fun_mk (st := s_slid) l_slid cc_slid k_slid
  have t_slid : At K mg "slid" s_slid ["floor", "standing", "word"] := ⟨_, _, F_slid, PySem.W.mg_of X G a_slid, F_slid.binds (ps := ["floor", "standing", "word"]) fun _ _ _ _ _ _ us hl => match us, hl with | [_, _, _], _ => rfl⟩
  have F_is_move := fun_mk (st := s_is_move) l_is_move cc_is_move k_is_move
  have t_is_move : At K mg "is_move" s_is_move ["floor", "standing", "thing"] := ⟨_, _, F_is_move, PySem.W.mg_of X G a_is_move, F_is_move.binds (ps := ["floor", "standing", "thing"]) fun _ _ _ _ _ _ us hl => match us, hl with | [_, _, _], _ => rfl⟩
  have F_moved := fun_mk (st := s_moved) l_moved cc_moved k_moved
  have t_moved : At K mg "moved" s_moved ["floor", "standing", "words"] := ⟨_, _, F_moved, PySem.W.mg_of X G a_moved, F_moved.binds (ps := ["floor", "standing", "words"]) fun _ _ _ _ _ _ us hl => match us, hl with | [_, _, _], _ => rfl⟩
  have F_law_refused := fun_mk (st := s_law_refused) l_law_refused cc_law_refused k_law_refused
  have t_law_refused : At K mg "_law_refused" s_law_refused ["_law_floor_here", "_law_standing_here", "_law_words_here"] := ⟨_, _, F_law_refused, PySem.W.mg_of X G a_law_refused, F_law_refused.binds (ps := ["_law_floor_here", "_law_standing_here", "_law_words_here"]) fun _ _ _ _ _ _ us hl => match us, hl with | [_, _, _], _ => rfl⟩
  have F_law_whole := fun_mk (st := s_law_whole) l_law_whole cc_law_whole k_law_whole
  have t_law_whole : At K mg "_law_whole" s_law_whole ["_law_found"] := ⟨_, _, F_law_whole, PySem.W.mg_of X G a_law_whole, F_law_whole.binds (ps := ["_law_found"]) fun _ _ _ _ _ _ us hl => match us, hl with | [_], _ => rfl⟩
  have F_law_is := fun_mk (st := s_law_is) l_law_is cc_law_is k_law_is
  have t_law_is : At K mg "_law_is" s_law_is ["_law_found", "_law_due"] := ⟨_, _, F_law_is, PySem.W.mg_of X G a_law_is, F_law_is.binds (ps := ["_law_found", "_law_due"]) fun _ _ _ _ _ _ us hl => match us, hl with | [_, _], _ => rfl⟩
  have F_law := fun_mk (st := s_law) l_law cc_law k_law
  have t_law : At K mg "law" s_law ["_law_script"] := ⟨_, _, F_law, PySem.W.mg_of X G a_law, F_law.binds (ps := ["_law_script"]) fun _ _ _ _ _ _ us hl => match us, hl with | [_], _ => rfl⟩
  refine ⟨_, fun s v => .of_eq (fd := PySem.W.fnOf "law" "law" (defArgs s_law) (defBody s_law) (defScope s_law) .none kV_law dc_law pm_law an_law cd_law ct_law) rfl, fun base b1 _ => ?_⟩
  have d_law_draw : Cl l.prog w K mg base "_law_draw" ["_law_script", "_law_k"] 1 (sp_law_draw K mg) := c_law_draw T t_law_draw
  have d_law_floor : Cl l.prog w K mg base "_law_floor" ["_law_number"] 1 (sp_law_floor K mg) := c_law_floor T t_law_floor
  have d_law_standing : Cl l.prog w K mg base "_law_standing" ["_law_script", "_law_k", "_law_floor_here"] 2 (sp_law_standing K mg) := c_law_standing T d_law_draw t_law_standing
  have d_law_moved : Cl l.prog w K mg base "_law_moved" ["_law_floor_here", "_law_standing_here", "_law_word_here"] 1 (sp_law_moved K mg) := c_law_moved T t_law_moved
  have d_law_words : Cl l.prog w K mg base "_law_words" ["_law_floor_here", "_law_standing_here"] 2 (sp_law_words K mg) := c_law_words T d_law_moved t_law_words
  have d_is_among : Cl l.prog w K mg base "is_among" ["thing", "least", "most"] 1 (sp_is_among K mg) := c_is_among T t_is_among
  have d_is_floor : Cl l.prog w K mg base "is_floor" ["thing"] 2 (sp_is_floor K mg) := c_is_floor T d_is_among t_is_floor
  have d_need_floor : Cl l.prog w K mg base "need_floor" ["floor"] 3 (sp_need_floor K mg) := c_need_floor T d_is_floor t_need_floor
  have d_is_standing : Cl l.prog w K mg base "is_standing" ["floor", "thing"] 2 (sp_is_standing K mg) := c_is_standing T d_is_among t_is_standing
  have d_need_standing : Cl l.prog w K mg base "need_standing" ["floor", "standing"] 4 (sp_need_standing K mg) := c_need_standing T d_need_floor d_is_standing t_need_standing
  have d_place_beside : Cl l.prog w K mg base "place_beside" ["floor", "empty", "word"] 1 (sp_place_beside K mg) := c_place_beside T t_place_beside
  have d_words_at : Cl l.prog w K mg base "words_at" ["floor", "empty"] 2 (sp_words_at K mg) := c_words_at T d_place_beside t_words_at
  have d_moves : Cl l.prog w K mg base "moves" ["floor", "standing"] 5 (sp_moves K mg) := c_moves T d_need_standing d_words_at t_moves
  have d_law_word : Cl l.prog w K mg base "_law_word" ["_law_e"] 1 (sp_law_word K mg) := c_law_word T t_law_word
  have d_slid : Cl l.prog w K mg base "slid" ["floor", "standing", "word"] 2 (sp_slid K mg) := c_slid T d_place_beside t_slid
  have d_is_move : Cl l.prog w K mg base "is_move" ["floor", "standing", "thing"] 3 (sp_is_move K mg) := c_is_move T d_words_at t_is_move
  have d_moved : Cl l.prog w K mg base "moved" ["floor", "standing", "words"] 5 (sp_moved K mg) := c_moved T d_need_standing d_slid d_is_move t_moved
  have d_law_refused : Cl l.prog w K mg base "_law_refused" ["_law_floor_here", "_law_standing_here", "_law_words_here"] 6 (sp_law_refused K mg) := c_law_refused T d_law_word d_moved t_law_refused
  have d_law_whole : Cl l.prog w K mg base "_law_whole" ["_law_found"] 1 (sp_law_whole K mg) := c_law_whole T t_law_whole
  have d_law_is : Cl l.prog w K mg base "_law_is" ["_law_found", "_law_due"] 2 (sp_law_is K mg) := c_law_is T d_law_whole t_law_is
  have z := o_law (base := base) T d_law_draw d_law_floor d_law_standing d_law_words d_moves d_law_moved d_law_refused d_law_is d_moved F_law
  exact z
theorem cx_no {P : Program} {w : World} {H : Hp} {s : Shared} {e : Value} {s' : Shared} (z : L2.CX P w [] H s (fun _ _ _ => False) e s') : False := by
  obtain ⟨_, _, _, _, _, _, _, _, _, _, _, _, z⟩ := z
  exact z
theorem sp_go {K : PySem.W.Frag} {mg : Str → Option Value} {H : Hp} {a : Addr} {ns : List Int} (hS : SqL K H a (ns.map V.int)) : sp_law K mg [.ref a] H (fun v _ => v = .bl true) fun _ _ _ => False :=
  ⟨H, ns, .refl _, .cons (.scr hS) .nil, trivial, fun _ _ _ _ s => s.bl_inv⟩
theorem walk {l : PySem.W.OpenLaw} {q : Program} {loose : List Str} {XP : (Str → Option Value) → Heap → Prop} {YP : World → Heap → Prop} {d : PySem.DefRec} {K : PySem.Params → PySem.W.Frag} (hn : l.most = some 63) (hdf : d.params.defaults = [])
    (hY : ∀ (w : World) (h : Heap), YP w h → (K w.params).In h)
    (F : ∀ (w : World) (mg : Str → Option Value) (fa : Addr) (h : Heap), (K w.params).In h → h.Ns PySem.mainGlobals mg → mg d.name = some (.ref fa) →
      ∃ fd : FuncData, (∀ (s : Shared) (u : Value), PySem.BindsTo s fd ⟨[u], []⟩ [("_law_script", u)]) ∧ ∀ base : Heap, (K w.params).In base → base.Ns PySem.mainGlobals mg → FnOk l.prog w (K w.params) mg base (L2.CX l.prog w) 7 fa fd ["_law_script"] (sp_law (K w.params) fun _ => none)) :
    PySem.W.WalkO q loose XP YP l.row.toRowW d [] (fun f vs => PySem.call f vs) :=
  L2.walk_of (n := 63) (k := 7) (x := "_law_script") (CX := fun w => L2.CX l.prog w) (sp := fun w => sp_law (K w.params) fun _ => none) hn (by decide) hdf ⟨rfl, by decide, by decide⟩ hY F (fun _ _ _ _ _ _ hS => sp_go hS) fun _ _ _ _ _ z => cx_no z
end Sf
open PySem PySem.W PyProof.Rows
set_option maxRecDepth 100000 in
set_option maxHeartbeats 0 in
theorem PySem.Challenge.cw_slidefloor_k02_moves_one_by_one_holds : PySem.Challenge.rw_slidefloor_k02_moves_one_by_one.Holds := by
  w_on; o_law; k_head; (case hw => w_witness2)
  k_fill
  refine Sf.walk (l := PySem.Challenge.rw_slidefloor_k02_moves_one_by_one) rfl rfl (fun w h Y => PySem.W.kIn_of Y) ?F
  case F =>
    intro w mg fa h KX G hmg
    refine' Sf.all_mk KX G hmg ?a_SlideError ?a_BadFloor ?a_BadStanding ?a_BadMove ?a_BadNumber ?a_BadText ?a_TooMany ?a_NothingDone ?a_law_draw ?l_law_draw ?cc_law_draw ?k_law_draw ?a_law_floor ?l_law_floor ?cc_law_floor ?k_law_floor ?a_law_standing ?l_law_standing ?cc_law_standing ?k_law_standing ?a_law_moved ?l_law_moved ?cc_law_moved ?k_law_moved ?a_law_words ?l_law_words ?cc_law_words ?k_law_words ?a_is_among ?l_is_among ?cc_is_among ?k_is_among ?a_is_floor ?l_is_floor ?cc_is_floor ?k_is_floor ?a_need_floor ?l_need_floor ?cc_need_floor ?k_need_floor ?a_is_standing ?l_is_standing ?cc_is_standing ?k_is_standing ?a_need_standing ?l_need_standing ?cc_need_standing ?k_need_standing ?a_place_beside ?l_place_beside ?cc_place_beside ?k_place_beside ?a_words_at ?l_words_at ?cc_words_at ?k_words_at ?a_moves ?l_moves ?cc_moves ?k_moves ?a_law_word ?l_law_word ?cc_law_word ?k_law_word ?a_slid ?l_slid ?cc_slid ?k_slid ?a_is_move ?l_is_move ?cc_is_move ?k_is_move ?a_moved ?l_moved ?cc_moved ?k_moved ?a_law_refused ?l_law_refused ?cc_law_refused ?k_law_refused ?a_law_whole ?l_law_whole ?cc_law_whole ?k_law_whole ?a_law_is ?l_law_is ?cc_law_is ?k_law_is ?a_law ?l_law ?cc_law ?k_law ?z_len ?z_isinstance ?z_all ?z_sorted ?z_list ?z_tuple ?z_range ?z_sum ?z_int ?z_bool ?z_str ?z_min ?z_max ?z_abs ?z_enumerate ?z_ValueError ?v_MOST_SIDE ?a_WORDS ?l_WORDS ?a_FROM ?l_FROM ?kl_FROM ?v_FROM_up ?l_FROM_up ?v_FROM_down ?l_FROM_down ?v_FROM_left ?l_FROM_left ?v_FROM_right ?l_FROM_right ?x_SlideError ?xk_SlideError ?xb_SlideError ?xt_SlideError ?x_BadFloor ?xk_BadFloor ?xb_BadFloor ?xt_BadFloor ?x_BadStanding ?xk_BadStanding ?xb_BadStanding ?xt_BadStanding ?x_BadMove ?xk_BadMove ?xb_BadMove ?xt_BadMove ?x_BadNumber ?xk_BadNumber ?xb_BadNumber ?xt_BadNumber ?x_BadText ?xk_BadText ?xb_BadText ?xt_BadText ?x_TooMany ?xk_TooMany ?xb_TooMany ?xt_TooMany ?x_NothingDone ?xk_NothingDone ?xb_NothingDone ?xt_NothingDone ?xhn ?xht ?eg_BadFloor ?ek_BadFloor ?ed_BadFloor ?ea_BadFloor ?em_BadFloor ?mm_BadFloor ?kk_BadFloor_SlideError ?kk_BadFloor_BadFloor ?kk_BadFloor_BadStanding ?kk_BadFloor_BadMove ?kk_BadFloor_BadNumber ?kk_BadFloor_BadText ?kk_BadFloor_TooMany ?kk_BadFloor_NothingDone ?kv_BadFloor ?eg_BadStanding ?ek_BadStanding ?ed_BadStanding ?ea_BadStanding ?em_BadStanding ?mm_BadStanding ?kk_BadStanding_SlideError ?kk_BadStanding_BadFloor ?kk_BadStanding_BadStanding ?kk_BadStanding_BadMove ?kk_BadStanding_BadNumber ?kk_BadStanding_BadText ?kk_BadStanding_TooMany ?kk_BadStanding_NothingDone ?kv_BadStanding ?eg_BadMove ?ek_BadMove ?ed_BadMove ?ea_BadMove ?em_BadMove ?mm_BadMove ?kk_BadMove_SlideError ?kk_BadMove_BadFloor ?kk_BadMove_BadStanding ?kk_BadMove_BadMove ?kk_BadMove_BadNumber ?kk_BadMove_BadText ?kk_BadMove_TooMany ?kk_BadMove_NothingDone ?kv_BadMove ?kn_SlideError ?kn_BadFloor ?kn_BadStanding ?kn_BadMove ?kn_BadNumber ?kn_BadText ?kn_TooMany ?kn_NothingDone
    (case a_SlideError => k_is)
    (case a_BadFloor => k_is)
    (case a_BadStanding => k_is)
    (case a_BadMove => k_is)
    (case a_BadNumber => k_is)
    (case a_BadText => k_is)
    (case a_TooMany => k_is)
    (case a_NothingDone => k_is)
    (case a_law_draw => k_is)
    (case l_law_draw => k_is)
    (case cc_law_draw => k_is)
    (case k_law_draw => k_is)
    (case a_law_floor => k_is)
    (case l_law_floor => k_is)
    (case cc_law_floor => k_is)
    (case k_law_floor => k_is)
    (case a_law_standing => k_is)
    (case l_law_standing => k_is)
    (case cc_law_standing => k_is)
    (case k_law_standing => k_is)
    (case a_law_moved => k_is)
    (case l_law_moved => k_is)
    (case cc_law_moved => k_is)
    (case k_law_moved => k_is)
    (case a_law_words => k_is)
    (case l_law_words => k_is)
    (case cc_law_words => k_is)
    (case k_law_words => k_is)
    (case a_is_among => k_is)
    (case l_is_among => k_is)
    (case cc_is_among => k_is)
    (case k_is_among => k_is)
    (case a_is_floor => k_is)
    (case l_is_floor => k_is)
    (case cc_is_floor => k_is)
    (case k_is_floor => k_is)
    (case a_need_floor => k_is)
    (case l_need_floor => k_is)
    (case cc_need_floor => k_is)
    (case k_need_floor => k_is)
    (case a_is_standing => k_is)
    (case l_is_standing => k_is)
    (case cc_is_standing => k_is)
    (case k_is_standing => k_is)
    (case a_need_standing => k_is)
    (case l_need_standing => k_is)
    (case cc_need_standing => k_is)
    (case k_need_standing => k_is)
    (case a_place_beside => k_is)
    (case l_place_beside => k_is)
    (case cc_place_beside => k_is)
    (case k_place_beside => k_is)
    (case a_words_at => k_is)
    (case l_words_at => k_is)
    (case cc_words_at => k_is)
    (case k_words_at => k_is)
    (case a_moves => k_is)
    (case l_moves => k_is)
    (case cc_moves => k_is)
    (case k_moves => k_is)
    (case a_law_word => k_is)
    (case l_law_word => k_is)
    (case cc_law_word => k_is)
    (case k_law_word => k_is)
    (case a_slid => k_is)
    (case l_slid => k_is)
    (case cc_slid => k_is)
    (case k_slid => k_is)
    (case a_is_move => k_is)
    (case l_is_move => k_is)
    (case cc_is_move => k_is)
    (case k_is_move => k_is)
    (case a_moved => k_is)
    (case l_moved => k_is)
    (case cc_moved => k_is)
    (case k_moved => k_is)
    (case a_law_refused => k_is)
    (case l_law_refused => k_is)
    (case cc_law_refused => k_is)
    (case k_law_refused => k_is)
    (case a_law_whole => k_is)
    (case l_law_whole => k_is)
    (case cc_law_whole => k_is)
    (case k_law_whole => k_is)
    (case a_law_is => k_is)
    (case l_law_is => k_is)
    (case cc_law_is => k_is)
    (case k_law_is => k_is)
    (case a_law => k_is)
    (case l_law => k_is)
    (case cc_law => k_is)
    (case k_law => k_is)
    (case z_len => k_is)
    (case z_isinstance => k_is)
    (case z_all => k_is)
    (case z_sorted => k_is)
    (case z_list => k_is)
    (case z_tuple => k_is)
    (case z_range => k_is)
    (case z_sum => k_is)
    (case z_int => k_is)
    (case z_bool => k_is)
    (case z_str => k_is)
    (case z_min => k_is)
    (case z_max => k_is)
    (case z_abs => k_is)
    (case z_enumerate => k_is)
    (case z_ValueError => k_is)
    (case v_MOST_SIDE => k_is)
    (case a_WORDS => k_is)
    (case l_WORDS => k_is)
    (case a_FROM => k_is)
    (case l_FROM => k_is)
    (case kl_FROM => exact ⟨⟨_, _, rfl, rfl⟩, ⟨_, _, rfl, rfl⟩, ⟨_, _, rfl, rfl⟩, ⟨_, _, rfl, rfl⟩, trivial⟩)
    (case v_FROM_up => k_is)
    (case l_FROM_up => k_is)
    (case v_FROM_down => k_is)
    (case l_FROM_down => k_is)
    (case v_FROM_left => k_is)
    (case l_FROM_left => k_is)
    (case v_FROM_right => k_is)
    (case l_FROM_right => k_is)
    (case x_SlideError => k_exc)
    (case xk_SlideError => k_is)
    (case xb_SlideError => k_is)
    (case xt_SlideError => k_is)
    (case x_BadFloor => k_exc)
    (case xk_BadFloor => k_is)
    (case xb_BadFloor => k_is)
    (case xt_BadFloor => k_is)
    (case x_BadStanding => k_exc)
    (case xk_BadStanding => k_is)
    (case xb_BadStanding => k_is)
    (case xt_BadStanding => k_is)
    (case x_BadMove => k_exc)
    (case xk_BadMove => k_is)
    (case xb_BadMove => k_is)
    (case xt_BadMove => k_is)
    (case x_BadNumber => k_exc)
    (case xk_BadNumber => k_is)
    (case xb_BadNumber => k_is)
    (case xt_BadNumber => k_is)
    (case x_BadText => k_exc)
    (case xk_BadText => k_is)
    (case xb_BadText => k_is)
    (case xt_BadText => k_is)
    (case x_TooMany => k_exc)
    (case xk_TooMany => k_is)
    (case xb_TooMany => k_is)
    (case xt_TooMany => k_is)
    (case x_NothingDone => k_exc)
    (case xk_NothingDone => k_is)
    (case xb_NothingDone => k_is)
    (case xt_NothingDone => k_is)
    (case xhn => k_is)
    (case xht => k_is)
    (case eg_BadFloor => k_is)
    (case ek_BadFloor => k_is)
    (case ed_BadFloor => k_is)
    (case ea_BadFloor => k_is)
    (case em_BadFloor => k_is)
    (case mm_BadFloor => first | rfl | k_is)
    (case kk_BadFloor_SlideError => first | rfl | k_is)
    (case kk_BadFloor_BadFloor => first | rfl | k_is)
    (case kk_BadFloor_BadStanding => first | rfl | k_is)
    (case kk_BadFloor_BadMove => first | rfl | k_is)
    (case kk_BadFloor_BadNumber => first | rfl | k_is)
    (case kk_BadFloor_BadText => first | rfl | k_is)
    (case kk_BadFloor_TooMany => first | rfl | k_is)
    (case kk_BadFloor_NothingDone => first | rfl | k_is)
    (case kv_BadFloor => first | rfl | k_is)
    (case eg_BadStanding => k_is)
    (case ek_BadStanding => k_is)
    (case ed_BadStanding => k_is)
    (case ea_BadStanding => k_is)
    (case em_BadStanding => k_is)
    (case mm_BadStanding => first | rfl | k_is)
    (case kk_BadStanding_SlideError => first | rfl | k_is)
    (case kk_BadStanding_BadFloor => first | rfl | k_is)
    (case kk_BadStanding_BadStanding => first | rfl | k_is)
    (case kk_BadStanding_BadMove => first | rfl | k_is)
    (case kk_BadStanding_BadNumber => first | rfl | k_is)
    (case kk_BadStanding_BadText => first | rfl | k_is)
    (case kk_BadStanding_TooMany => first | rfl | k_is)
    (case kk_BadStanding_NothingDone => first | rfl | k_is)
    (case kv_BadStanding => first | rfl | k_is)
    (case eg_BadMove => k_is)
    (case ek_BadMove => k_is)
    (case ed_BadMove => k_is)
    (case ea_BadMove => k_is)
    (case em_BadMove => k_is)
    (case mm_BadMove => first | rfl | k_is)
    (case kk_BadMove_SlideError => first | rfl | k_is)
    (case kk_BadMove_BadFloor => first | rfl | k_is)
    (case kk_BadMove_BadStanding => first | rfl | k_is)
    (case kk_BadMove_BadMove => first | rfl | k_is)
    (case kk_BadMove_BadNumber => first | rfl | k_is)
    (case kk_BadMove_BadText => first | rfl | k_is)
    (case kk_BadMove_TooMany => first | rfl | k_is)
    (case kk_BadMove_NothingDone => first | rfl | k_is)
    (case kv_BadMove => first | rfl | k_is)
    (case kn_SlideError => first | rfl | k_is)
    (case kn_BadFloor => first | rfl | k_is)
    (case kn_BadStanding => first | rfl | k_is)
    (case kn_BadMove => first | rfl | k_is)
    (case kn_BadNumber => first | rfl | k_is)
    (case kn_BadText => first | rfl | k_is)
    (case kn_TooMany => first | rfl | k_is)
    (case kn_NothingDone => first | rfl | k_is)
