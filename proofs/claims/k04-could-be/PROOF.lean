import PyProof.Rows.All
import Wide.All
import OpenK.AllK
import Wide.FinOn
import HandS.Base
import HandS.Call
import HandS.List
import HandS.Comp
import HandS.Ends
import HandS.Dict
import HandS.Iter
import HandS.Text
import HandS.Exc
import HandS.TryOnly
import HandS.ExcOwn
import HandS.ExcIs
import HandS.IsInst
import HandS.Flow
import HandS.Words
import HandS.WordsList
import HandS.WordsDict
import HandS.WordsExc
import HandS.TupAny
import HandS.TupMul
import PySem.Challenge.RW_blockhall_k04_numbers_that_could_be
set_option Elab.async false
set_option linter.all false
set_option maxRecDepth 100000
namespace Bh
open PySem PySem.Spec L2

/-! ### results, slots -/
inductive Cl where
  | blockError | badHouse | badNumber | uneven | noSquare | badBase | tooSmall | badText
  deriving DecidableEq

inductive Rs (α : Type) where
  | st
  | ex (c : Cl)
  | ok (a : α)

def Rs.bind {α β : Type} (r : Rs α) (f : α → Rs β) : Rs β :=
  match r with
  | .st => .st
  | .ex c => .ex c
  | .ok a => f a

@[simp] theorem Rs.bind_ok {α β : Type} (a : α) (f : α → Rs β) : (Rs.ok a).bind f = f a := rfl
@[simp] theorem Rs.bind_st {α β : Type} (f : α → Rs β) : (Rs.st : Rs α).bind f = .st := rfl
@[simp] theorem Rs.bind_ex {α β : Type} (c : Cl) (f : α → Rs β) : (Rs.ex c : Rs α).bind f = .ex c := rfl

/-- no exception may come of it -/
def Rs.nox {α : Type} (r : Rs α) : Rs α :=
  match r with
  | .ok a => .ok a
  | _ => .st

inductive Sl where
  | no
  | val (d : PyData)
  | own (ds : List PyData)
  | dT (kvs : List (List Int × Int))
  | dI (ks : List Int)

def Sl.isOwn : Sl → Bool
  | .own _ => true
  | .dT _ => true
  | .dI _ => true
  | _ => false

abbrev Ev := List Sl

/-! ### heaps -/
structure Grow (Hm H Hm' H' : Hp) : Prop where
  m : Same Hm Hm'
  s : Same Hm' H'
  h : Same H H'
  n : ∀ a o, H a = some o → Hm a = none → Hm' a = none

theorem Grow.trans {Hm H Hm1 H1 Hm2 H2 : Hp} (a : Grow Hm H Hm1 H1) (b : Grow Hm1 H1 Hm2 H2) : Grow Hm H Hm2 H2 :=
  ⟨a.m.trans b.m, b.s, a.h.trans b.h, fun x o e n => b.n x o (a.h x o e) (a.n x o e n)⟩
theorem Grow.refl {Hm H : Hp} (s : Same Hm H) : Grow Hm H Hm H := ⟨Same.refl _, s, Same.refl _, fun _ _ _ n => n⟩

theorem same_upd {H : Hp} {p : Addr} {o : HO} (h : H p = none) : Same H (upd H p o) := fun b x e => by
  rw [upd_ne (ne_of_none e h)]
  exact e
/-- a new immutable object -/
theorem Grow.laid {Hm H : Hp} {p : Addr} {o : HO} (s : Same Hm H) (h : H p = none) : Grow Hm H (upd Hm p o) (upd H p o) where
  m := same_upd (s.free h)
  s := fun b x e => by
    by_cases hb : b = p
    · subst hb
      rw [upd_same] at e ⊢
      exact e
    · rw [upd_ne hb] at e ⊢
      exact s b x e
  h := same_upd h
  n := fun a x e n => by
    rw [upd_ne (ne_of_none e h)]
    exact n
/-- a new object that is not (yet) immutable -/
theorem Grow.laidOwn {Hm H : Hp} {p : Addr} {o : HO} (s : Same Hm H) (h : H p = none) : Grow Hm H Hm (upd H p o) where
  m := Same.refl _
  s := s.trans (same_upd h)
  h := same_upd h
  n := fun _ _ _ n => n

end Bh
namespace L2
open PySem PySem.Spec
theorem SqT.same {K : PySem.W.Frag} {H H' : Hp} {a : Addr} {xs : List V} (e : Same H H') (h : SqT K H a xs) : SqT K H' a xs := by
  rcases h with h | h
  · rcases h with h | ⟨o, h⟩
    · exact .inl (.inl (e _ _ h))
    · exact .inl (.inr ⟨o, e _ _ h⟩)
  · exact .inr h

mutual
theorem Dp.same {K : PySem.W.Frag} {H H' : Hp} (e : Same H H') : ∀ {v : V} {d : PyData}, Dp K H v d → Dp K H' v d
  | _, _, .non => .non
  | _, _, .bl b => .bl b
  | _, _, .int i => .int i
  | _, _, .str x => .str x
  | _, _, .lst h ha => .lst (Same.seq e h) (DpAll.same e ha)
  | _, _, .tup h ha => .tup (SqT.same e h) (DpAll.same e ha)
theorem DpAll.same {K : PySem.W.Frag} {H H' : Hp} (e : Same H H') : ∀ {vs : List V} {ds : List PyData}, DpAll K H vs ds → DpAll K H' vs ds
  | _, _, .nil => .nil
  | _, _, .cons h t => .cons (Dp.same e h) (DpAll.same e t)
end

theorem DpAll.length {K : PySem.W.Frag} {H : Hp} : ∀ {vs : List V} {ds : List PyData}, DpAll K H vs ds → vs.length = ds.length
  | _, _, .nil => rfl
  | _, _, .cons _ t => by rw [List.length_cons, List.length_cons, DpAll.length t]
theorem DpAll.get {K : PySem.W.Frag} {H : Hp} : ∀ {vs : List V} {ds : List PyData} {i : Nat} {d : PyData}, DpAll K H vs ds → ds[i]? = some d → ∃ v, vs[i]? = some v ∧ Dp K H v d
  | _, _, _, _, .nil, h => by simp at h
  | _, _, 0, _, .cons h _, e => by
    simp at e; subst e
    exact ⟨_, rfl, h⟩
  | _, _, i + 1, d, .cons _ t, e => by
    obtain ⟨v, h1, h2⟩ := DpAll.get (i := i) (d := d) t (by simpa using e)
    exact ⟨v, by simpa using h1, h2⟩
theorem DpAll.get' {K : PySem.W.Frag} {H : Hp} : ∀ {vs : List V} {ds : List PyData} {i : Nat} {v : V}, DpAll K H vs ds → vs[i]? = some v → ∃ d, ds[i]? = some d ∧ Dp K H v d
  | _, _, _, _, .nil, h => by simp at h
  | _, _, 0, _, .cons h _, e => by
    simp at e; subst e
    exact ⟨_, rfl, h⟩
  | _, _, i + 1, d, .cons _ t, e => by
    obtain ⟨v, h1, h2⟩ := DpAll.get' (i := i) (v := d) t (by simpa using e)
    exact ⟨v, by simpa using h1, h2⟩
theorem DpAll.append {K : PySem.W.Frag} {H : Hp} : ∀ {vs ws : List V} {ds es : List PyData}, DpAll K H vs ds → DpAll K H ws es → DpAll K H (vs ++ ws) (ds ++ es)
  | _, _, _, _, .nil, h => h
  | _, _, _, _, .cons a t, h => .cons a (DpAll.append t h)
theorem DpAll.take {K : PySem.W.Frag} {H : Hp} : ∀ (n : Nat) {vs : List V} {ds : List PyData}, DpAll K H vs ds → DpAll K H (vs.take n) (ds.take n)
  | 0, _, _, _ => .nil
  | _ + 1, _, _, .nil => .nil
  | n + 1, _, _, .cons a t => .cons a (DpAll.take n t)
theorem DpAll.drop {K : PySem.W.Frag} {H : Hp} : ∀ (n : Nat) {vs : List V} {ds : List PyData}, DpAll K H vs ds → DpAll K H (vs.drop n) (ds.drop n)
  | 0, _, _, h => h
  | _ + 1, _, _, .nil => .nil
  | n + 1, _, _, .cons _ t => DpAll.drop n t
theorem DpAll.reverse {K : PySem.W.Frag} {H : Hp} : ∀ {vs : List V} {ds : List PyData}, DpAll K H vs ds → DpAll K H vs.reverse ds.reverse
  | _, _, .nil => .nil
  | _, _, .cons a t => by
    rw [List.reverse_cons, List.reverse_cons]
    exact DpAll.append (DpAll.reverse t) (.cons a .nil)
theorem DpAll.set {K : PySem.W.Frag} {H : Hp} {v : V} {d : PyData} (h : Dp K H v d) : ∀ (n : Nat) {vs : List V} {ds : List PyData}, DpAll K H vs ds → DpAll K H (vs.set n v) (ds.set n d)
  | _, _, _, .nil => .nil
  | 0, _, _, .cons _ t => .cons h t
  | n + 1, _, _, .cons a t => .cons a (DpAll.set h n t)
theorem DpAll.rep {K : PySem.W.Frag} {H : Hp} {vs : List V} {ds : List PyData} (h : DpAll K H vs ds) : ∀ n : Nat, DpAll K H (List.replicate n vs).flatten (List.replicate n ds).flatten
  | 0 => .nil
  | n + 1 => by
    rw [List.replicate_succ, List.replicate_succ, List.flatten_cons, List.flatten_cons]
    exact DpAll.append h (DpAll.rep h n)

end L2
namespace Bh
open PySem PySem.Spec L2
/-! ### shallow: a list that may be changed later, its items immutable -/
def Sh (K : PySem.W.Frag) (Hm H : Hp) (v : V) (d : PyData) : Prop :=
  Dp K Hm v d ∨ ∃ p xs ds, v = .ref p ∧ H p = some (.lst xs) ∧ DpAll K Hm xs ds ∧ d = .list ds
inductive ShAll (K : PySem.W.Frag) (Hm H : Hp) : List V → List PyData → Prop where
  | nil : ShAll K Hm H [] []
  | cons {v : V} {vs : List V} {d : PyData} {ds : List PyData} : Sh K Hm H v d → ShAll K Hm H vs ds → ShAll K Hm H (v :: vs) (d :: ds)

theorem Sh.dp {K : PySem.W.Frag} {Hm H : Hp} {v : V} {d : PyData} (s : Same Hm H) (h : Sh K Hm H v d) : Dp K H v d := by
  rcases h with h | ⟨p, xs, ds, rfl, hp, ha, rfl⟩
  · exact h.same s
  · exact .lst (SqL.of hp) (ha.same s)
theorem Sh.grow {K : PySem.W.Frag} {Hm H Hm' H' : Hp} {v : V} {d : PyData} (g : Grow Hm H Hm' H') (h : Sh K Hm H v d) : Sh K Hm' H' v d := by
  rcases h with h | ⟨p, xs, ds, rfl, hp, ha, rfl⟩
  · exact .inl (h.same g.m)
  · exact .inr ⟨p, xs, ds, rfl, g.h _ _ hp, ha.same g.m, rfl⟩
theorem ShAll.grow {K : PySem.W.Frag} {Hm H Hm' H' : Hp} (g : Grow Hm H Hm' H') : ∀ {vs : List V} {ds : List PyData}, ShAll K Hm H vs ds → ShAll K Hm' H' vs ds
  | _, _, .nil => .nil
  | _, _, .cons a t => .cons (a.grow g) (ShAll.grow g t)
theorem ShAll.length {K : PySem.W.Frag} {Hm H : Hp} : ∀ {vs : List V} {ds : List PyData}, ShAll K Hm H vs ds → vs.length = ds.length
  | _, _, .nil => rfl
  | _, _, .cons _ t => by rw [List.length_cons, List.length_cons, ShAll.length t]
theorem Sh.list {K : PySem.W.Frag} {Hm H : Hp} {v : V} {ds : List PyData} (s : Same Hm H) (h : Sh K Hm H v (.list ds)) : ∃ p xs, v = .ref p ∧ SqL K H p xs ∧ DpAll K Hm xs ds := by
  rcases h with h | ⟨p, xs, ds', rfl, hp, ha, e⟩
  · cases h with
    | lst h ha => exact ⟨_, _, rfl, Same.seq s h, ha⟩
  · cases e
    exact ⟨p, xs, rfl, SqL.of hp, ha⟩
theorem Sh.tuple {K : PySem.W.Frag} {Hm H : Hp} {v : V} {ds : List PyData} (s : Same Hm H) (h : Sh K Hm H v (.tuple ds)) : ∃ p xs, v = .ref p ∧ SqT K H p xs ∧ DpAll K Hm xs ds := by
  rcases h with h | ⟨p, xs, ds', rfl, hp, ha, e⟩
  · cases h with
    | tup h ha => exact ⟨_, _, rfl, SqT.same s h, ha⟩
  · cases e
theorem Sh.int {K : PySem.W.Frag} {Hm H : Hp} {v : V} {i : Int} (h : Sh K Hm H v (.int i)) : v = .int i := by
  rcases h with h | ⟨p, xs, ds', rfl, hp, ha, e⟩
  · cases h; rfl
  · cases e
theorem Sh.bool {K : PySem.W.Frag} {Hm H : Hp} {v : V} {b : Bool} (h : Sh K Hm H v (.bool b)) : v = .bl b := by
  rcases h with h | ⟨p, xs, ds', rfl, hp, ha, e⟩
  · cases h; rfl
  · cases e
theorem Sh.str {K : PySem.W.Frag} {Hm H : Hp} {v : V} {x : Str} (h : Sh K Hm H v (.str x)) : v = .str x := by
  rcases h with h | ⟨p, xs, ds', rfl, hp, ha, e⟩
  · cases h; rfl
  · cases e
theorem Sh.none {K : PySem.W.Frag} {Hm H : Hp} {v : V} (h : Sh K Hm H v .none) : v = .non := by
  rcases h with h | ⟨p, xs, ds', rfl, hp, ha, e⟩
  · cases h; rfl
  · cases e
theorem Sh.seq {K : PySem.W.Frag} {Hm H : Hp} {v : V} {d : PyData} {ds : List PyData} (s : Same Hm H) (h : Sh K Hm H v d) (e : d = .list ds ∨ d = .tuple ds) : ∃ p xs, v = .ref p ∧ (SqL K H p xs ∨ SqT K H p xs) ∧ DpAll K Hm xs ds := by
  rcases e with rfl | rfl
  · obtain ⟨p, xs, e, h, ha⟩ := h.list s
    exact ⟨p, xs, e, .inl h, ha⟩
  · obtain ⟨p, xs, e, h, ha⟩ := h.tuple s
    exact ⟨p, xs, e, .inr h, ha⟩

/-! ### the slots stand for data -/
def SlOk (K : PySem.W.Frag) (Hm H : Hp) (v : Option (Option V)) : Sl → Prop
  | .no => True
  | .val d => ∃ x, v = some (some x) ∧ Dp K Hm x d
  | .own ds => ∃ p xs, v = some (some (.ref p)) ∧ Hm p = none ∧ H p = some (.lst xs) ∧ DpAll K Hm xs ds
  | .dT kvs => ∃ p, v = some (some (.ref p)) ∧ Hm p = none ∧ H p = some (.dT (kvs.map fun kv => (kv.1.map Sum.inl, V.int kv.2)))
  | .dI ks => ∃ p, v = some (some (.ref p)) ∧ Hm p = none ∧ H p = some (.dK (ks.map fun k => (Sum.inl k, V.bl true)))

structure Rep (K : PySem.W.Frag) (Hm H : Hp) (σ : St) (ρ : Ev) : Prop where
  len : ρ.length = σ.length
  ok : ∀ (i : Nat) s, ρ[i]? = some s → SlOk K Hm H σ[i]? s
  sep : ∀ (i j : Nat) s t p, i ≠ j → ρ[i]? = some s → ρ[j]? = some t → s.isOwn = true → t.isOwn = true → σ[i]? = some (some (V.ref p)) → σ[j]? ≠ some (some (V.ref p))

theorem SlOk.grow {K : PySem.W.Frag} {Hm H Hm' H' : Hp} {v : Option (Option V)} {s : Sl} (g : Grow Hm H Hm' H') (h : SlOk K Hm H v s) : SlOk K Hm' H' v s := by
  cases s with
  | no => trivial
  | val d => obtain ⟨x, e, h⟩ := h; exact ⟨x, e, h.same g.m⟩
  | own ds => obtain ⟨p, xs, e, n, hp, ha⟩ := h; exact ⟨p, xs, e, g.n _ _ hp n, g.h _ _ hp, ha.same g.m⟩
  | dT kvs => obtain ⟨p, e, n, hp⟩ := h; exact ⟨p, e, g.n _ _ hp n, g.h _ _ hp⟩
  | dI ks => obtain ⟨p, e, n, hp⟩ := h; exact ⟨p, e, g.n _ _ hp n, g.h _ _ hp⟩
theorem Rep.grow {K : PySem.W.Frag} {Hm H Hm' H' : Hp} {σ : St} {ρ : Ev} (g : Grow Hm H Hm' H') (h : Rep K Hm H σ ρ) : Rep K Hm' H' σ ρ :=
  ⟨h.len, fun i s e => (h.ok i s e).grow g, h.sep⟩
theorem Rep.val {K : PySem.W.Frag} {Hm H : Hp} {σ : St} {ρ : Ev} {i : Nat} {d : PyData} (h : Rep K Hm H σ ρ) (e : ρ[i]? = some (.val d)) : ∃ x, σ[i]? = some (some x) ∧ Dp K Hm x d := h.ok i _ e
theorem Rep.own {K : PySem.W.Frag} {Hm H : Hp} {σ : St} {ρ : Ev} {i : Nat} {ds : List PyData} (h : Rep K Hm H σ ρ) (e : ρ[i]? = some (.own ds)) :
    ∃ p xs, σ[i]? = some (some (.ref p)) ∧ Hm p = none ∧ H p = some (.lst xs) ∧ DpAll K Hm xs ds := h.ok i _ e
/-- a slot is set to an immutable value -/
theorem Rep.set {K : PySem.W.Frag} {Hm H : Hp} {σ : St} {ρ : Ev} {i : Nat} {v : V} {d : PyData} (h : Rep K Hm H σ ρ) (hv : Dp K Hm v d) : Rep K Hm H (σ.set i (some v)) (ρ.set i (.val d)) where
  len := by rw [List.length_set, List.length_set]; exact h.len
  ok := fun j s e => by
    by_cases hj : i = j
    · subst hj
      by_cases hl : i < ρ.length
      · rw [List.getElem?_set_self hl] at e
        cases e
        exact ⟨v, by rw [List.getElem?_set_self (by rw [← h.len]; exact hl)], hv⟩
      · rw [List.getElem?_eq_none (by simpa using hl)] at e
        cases e
    · rw [List.getElem?_set_ne hj] at e ⊢
      exact h.ok j s e
  sep := fun a b s t p hab ha hb hs ht ea => by
    by_cases h1 : i = a
    · subst h1
      by_cases hl : i < ρ.length
      · rw [List.getElem?_set_self hl] at ha
        cases ha
        cases hs
      · rw [List.getElem?_eq_none (by simpa using hl)] at ha
        cases ha
    · by_cases h2 : i = b
      · subst h2
        by_cases hl : i < ρ.length
        · rw [List.getElem?_set_self hl] at hb
          cases hb
          cases ht
        · rw [List.getElem?_eq_none (by simpa using hl)] at hb
          cases hb
      · rw [List.getElem?_set_ne h1] at ha ea
        rw [List.getElem?_set_ne h2] at hb ⊢
        exact h.sep a b s t p hab ha hb hs ht ea
theorem Rep.setNo {K : PySem.W.Frag} {Hm H : Hp} {σ : St} {ρ : Ev} {i : Nat} {v : Option V} (h : Rep K Hm H σ ρ) : Rep K Hm H (σ.set i v) (ρ.set i .no) where
  len := by rw [List.length_set, List.length_set]; exact h.len
  ok := fun j s e => by
    by_cases hj : i = j
    · subst hj
      by_cases hl : i < ρ.length
      · rw [List.getElem?_set_self hl] at e
        cases e
        trivial
      · rw [List.getElem?_eq_none (by simpa using hl)] at e
        cases e
    · rw [List.getElem?_set_ne hj] at e ⊢
      exact h.ok j s e
  sep := fun a b s t p hab ha hb hs ht ea => by
    by_cases h1 : i = a
    · subst h1
      by_cases hl : i < ρ.length
      · rw [List.getElem?_set_self hl] at ha
        cases ha
        cases hs
      · rw [List.getElem?_eq_none (by simpa using hl)] at ha
        cases ha
    · by_cases h2 : i = b
      · subst h2
        by_cases hl : i < ρ.length
        · rw [List.getElem?_set_self hl] at hb
          cases hb
          cases ht
        · rw [List.getElem?_eq_none (by simpa using hl)] at hb
          cases hb
      · rw [List.getElem?_set_ne h1] at ha ea
        rw [List.getElem?_set_ne h2] at hb ⊢
        exact h.sep a b s t p hab ha hb hs ht ea
def wipeR (ρ : Ev) : List Nat → Ev
  | [] => ρ
  | v :: vs => (wipeR ρ vs).set v .no
theorem Rep.wipe {K : PySem.W.Frag} {Hm H : Hp} {σ : St} {ρ : Ev} (h : Rep K Hm H σ ρ) : ∀ vs : List Nat, Rep K Hm H (L2.wipe σ vs) (wipeR ρ vs)
  | [] => h
  | v :: vs => (h.wipe vs).setNo

/-! ### what is reached -/
def FinG {α β : Type} (R : Hp → Hp → β → α → Prop) (cl : Cl → Addr) (W : WX) (σ : St) (Hm H : Hp) (r : Rs α) (Q : β → Hp → Prop) : Prop :=
  match r with
  | .st => False
  | .ex c => ∀ Hm' H', Grow Hm H Hm' H' → W (.ref (cl c)) none σ H'
  | .ok a => ∀ b Hm' H', Grow Hm H Hm' H' → R Hm' H' b a → Q b H'
theorem FinG.grow {α β : Type} {R : Hp → Hp → β → α → Prop} {cl : Cl → Addr} {W : WX} {σ : St} {Hm H Hm1 H1 : Hp} {r : Rs α} {Q : β → Hp → Prop} (g : Grow Hm H Hm1 H1) (h : FinG R cl W σ Hm H r Q) : FinG R cl W σ Hm1 H1 r Q := by
  cases r with
  | st => exact h
  | ex c => exact fun Hm' H' g' => h Hm' H' (g.trans g')
  | ok a => exact fun b Hm' H' g' => h b Hm' H' (g.trans g')
theorem FinG.bind {α β γ δ : Type} {R1 : Hp → Hp → β → α → Prop} {R2 : Hp → Hp → δ → γ → Prop} {cl : Cl → Addr} {W : WX} {σ : St} {Hm H : Hp} {r : Rs α} {k : α → Rs γ} {Q : δ → Hp → Prop} {P : β → Hp → Prop}
    (h : FinG R2 cl W σ Hm H (r.bind k) Q) (hk : ∀ a b Hm1 H1, Grow Hm H Hm1 H1 → R1 Hm1 H1 b a → FinG R2 cl W σ Hm1 H1 (k a) Q → P b H1) : FinG R1 cl W σ Hm H r P := by
  cases r with
  | st => exact h
  | ex c => exact h
  | ok a => exact fun b Hm1 H1 g rb => hk a b Hm1 H1 g rb (FinG.grow g h)

def tG {α β : Type} (R : Hp → Hp → β → α → Prop) (K : PySem.W.Frag) (cl : Cl → Addr) (W : WX) (f : Ev → Rs α) : St → Hp → (β → Hp → Prop) → Prop := fun σ H Q =>
  ∃ Hm ρ, Same Hm H ∧ Rep K Hm H σ ρ ∧ FinG R cl W σ Hm H (f ρ) Q
abbrev tF (K : PySem.W.Frag) (cl : Cl → Addr) (W : WX) (f : Ev → Rs PyData) : TE := tG (fun Hm _ v d => Dp K Hm v d) K cl W f
abbrev tH (K : PySem.W.Frag) (cl : Cl → Addr) (W : WX) (f : Ev → Rs PyData) : TE := tG (fun Hm H v d => Sh K Hm H v d) K cl W f
abbrev tAr (K : PySem.W.Frag) (cl : Cl → Addr) (W : WX) (f : Ev → Rs (List PyData)) : TA := tG (fun Hm H v d => ShAll K Hm H v d) K cl W f
abbrev tAc (K : PySem.W.Frag) (cl : Cl → Addr) (W : WX) (f : Ev → Rs (List PyData)) : TA := tG (fun Hm H v d => DpAll K Hm v d) K cl W f
abbrev tQ (K : PySem.W.Frag) (cl : Cl → Addr) (W : WX) (f : Ev → Rs Bool) : TT := tG (fun _ _ b c => b = c) K cl W f

end Bh
namespace L2
open PySem PySem.Spec
theorem PE.le {X : Cx} {e : Expr} {t t' : TE} (h : PE X e t) (w : ∀ σ H Q, t' σ H Q → t σ H Q) : PE X e t' := ⟨fun pins s σ H Q I q => h.run pins s σ H Q I (w σ H Q q)⟩
theorem PT.le {X : Cx} {e : Expr} {t t' : TT} (h : PT X e t) (w : ∀ σ H Q, t' σ H Q → t σ H Q) : PT X e t' := ⟨fun pins s σ H Q I q => h.run pins s σ H Q I (w σ H Q q)⟩
theorem PW.le {X : Cx} {e : Expr} {t t' : TT} (h : PW X e t) (w : ∀ σ H Q, t' σ H Q → t σ H Q) : PW X e t' := ⟨fun wh pins s σ H Q I q => h.run wh pins s σ H Q I (w σ H Q q)⟩
theorem PA.le {X : Cx} {e : List Expr} {t t' : TA} (h : PA X e t) (w : ∀ σ H Q, t' σ H Q → t σ H Q) : PA X e t' := ⟨fun pos pins s σ H Q I q => h.run pos pins s σ H Q I (w σ H Q q)⟩
theorem PS.le {X : Cx} {e : Stmt} {t t' : TS} (h : PS X e t) (w : ∀ D σ H, t' D σ H → t D σ H) : PS X e t' := ⟨fun pins s σ H D I q => h.run pins s σ H D I (w D σ H q)⟩
theorem PSs.le {X : Cx} {e : List Stmt} {t t' : TS} (h : PSs X e t) (w : ∀ D σ H, t' D σ H → t D σ H) : PSs X e t' := ⟨fun pins s σ H D I q => h.run pins s σ H D I (w D σ H q)⟩

end L2
namespace Bh
open PySem PySem.Spec L2

/-! ### the meanings of expressions -/
def fVar (i : Nat) : Ev → Rs PyData := fun ρ => match ρ[i]? with
  | some (.val d) => .ok d
  | _ => .st
def hVar (i : Nat) : Ev → Rs PyData := fun ρ => match ρ[i]? with
  | some (.val d) => .ok d
  | some (.own ds) => .ok (.list ds)
  | _ => .st
def fC (d : PyData) : Ev → Rs PyData := fun _ => .ok d
def fA0 : Ev → Rs (List PyData) := fun _ => .ok []
def fAc (f : Ev → Rs PyData) (fs : Ev → Rs (List PyData)) : Ev → Rs (List PyData) := fun ρ => (f ρ).bind fun d => (fs ρ).bind fun ds => .ok (d :: ds)
def f1 (o : PyData → Rs PyData) (f : Ev → Rs PyData) : Ev → Rs PyData := fun ρ => (f ρ).bind o
def f2 (o : PyData → PyData → Rs PyData) (f g : Ev → Rs PyData) : Ev → Rs PyData := fun ρ => (f ρ).bind fun x => (g ρ).bind fun y => o x y
def fCall (F : List PyData → Rs PyData) (fs : Ev → Rs (List PyData)) : Ev → Rs PyData := fun ρ => (fs ρ).bind F
def fLst (ds : List PyData) : Rs PyData := if ds.length ≤ 16777216 then .ok (.list ds) else .st
def fTup (ds : List PyData) : Rs PyData := if ds.length ≤ 16777216 then .ok (.tuple ds) else .st
def fIf (t : Ev → Rs Bool) (f g : Ev → Rs PyData) : Ev → Rs PyData := fun ρ => (t ρ).bind fun b => if b = true then f ρ else g ρ
def fAnd (f g : Ev → Rs PyData) : Ev → Rs PyData := fun ρ => (f ρ).bind fun x => match x with
  | .bool true => g ρ
  | .bool false => .ok (.bool false)
  | _ => .st
def fOr (f g : Ev → Rs PyData) : Ev → Rs PyData := fun ρ => (f ρ).bind fun x => match x with
  | .bool false => g ρ
  | .bool true => .ok (.bool true)
  | _ => .st
def qAnd (f g : Ev → Rs Bool) : Ev → Rs Bool := fun ρ => (f ρ).bind fun b => if b = true then g ρ else .ok false
def qOr (f g : Ev → Rs Bool) : Ev → Rs Bool := fun ρ => (f ρ).bind fun b => if b = true then .ok true else g ρ
def qNot (f : Ev → Rs Bool) : Ev → Rs Bool := fun ρ => (f ρ).bind fun b => .ok (!b)
def truD : PyData → Rs Bool
  | .none => .ok false
  | .bool b => .ok b
  | .int i => .ok (i != 0)
  | .list xs => .ok (!xs.isEmpty)
  | .tuple xs => .ok (!xs.isEmpty)
  | _ => .st
def bolD : PyData → Rs Bool
  | .bool b => .ok b
  | _ => .st
def qVal (f : Ev → Rs PyData) : Ev → Rs Bool := fun ρ => (f ρ).bind bolD
def qTru (f : Ev → Rs PyData) : Ev → Rs Bool := fun ρ => (f ρ).bind truD
/-- a value, not, by truth -/
def fNot (f : Ev → Rs Bool) : Ev → Rs PyData := fun ρ => (f ρ).bind fun b => .ok (.bool (!b))

/-! the operators -/
def dAdd : PyData → PyData → Rs PyData
  | .int a, .int b => .ok (.int (a + b))
  | .str a, .str b => if a.length + b.length ≤ 16777216 then .ok (.str (a ++ b)) else .st
  | .list a, .list b => if a.length + b.length ≤ 16777216 then .ok (.list (a ++ b)) else .st
  | .tuple a, .tuple b => if a.length + b.length ≤ 16777216 then .ok (.tuple (a ++ b)) else .st
  | _, _ => .st
def dSub : PyData → PyData → Rs PyData
  | .int a, .int b => .ok (.int (a - b))
  | _, _ => .st
def dMul : PyData → PyData → Rs PyData
  | .int a, .int b => if decide (-18446744073709551616 < a) && decide (a < 18446744073709551616) || decide (-18446744073709551616 < b) && decide (b < 18446744073709551616) then .ok (.int (a * b)) else .st
  | .tuple a, .int k => if decide (2 ≤ k) && decide (k ≤ 1000) && decide (a.length ≤ 1000) && !a.isEmpty then .ok (.tuple (List.replicate k.toNat a).flatten) else .st
  | _, _ => .st
def dFdiv : PyData → PyData → Rs PyData
  | .int a, .int b => if decide (0 < b) && decide (b < 1073741824) then .ok (.int (a / b)) else .st
  | _, _ => .st
def dMod : PyData → PyData → Rs PyData
  | .int a, .int b => if decide (0 < b) then .ok (.int (a % b)) else .st
  | _, _ => .st
def dPow : PyData → PyData → Rs PyData
  | .int a, .int b => if decide (0 ≤ b) && decide (b ≤ 1000000) && decide (a.natAbs < 18446744073709551616) then .ok (.int (a ^ b.toNat)) else .st
  | _, _ => .st
def dNeg : PyData → Rs PyData
  | .int a => .ok (.int (-a))
  | _ => .st
def dLt : PyData → PyData → Rs PyData
  | .int a, .int b => .ok (.bool (decide (a < b)))
  | _, _ => .st
def dLe : PyData → PyData → Rs PyData
  | .int a, .int b => .ok (.bool (decide (a ≤ b)))
  | _, _ => .st
def dGt : PyData → PyData → Rs PyData
  | .int a, .int b => .ok (.bool (decide (b < a)))
  | _, _ => .st
def dGe : PyData → PyData → Rs PyData
  | .int a, .int b => .ok (.bool (decide (b ≤ a)))
  | _, _ => .st
def dIsNone (d : PyData) : Bool := match d with
  | .none => true
  | _ => false
def dIs : PyData → PyData → Rs PyData
  | d, .none => .ok (.bool (dIsNone d))
  | _, _ => .st
def dIsNot : PyData → PyData → Rs PyData
  | d, .none => .ok (.bool (!dIsNone d))
  | _, _ => .st

section
variable {X : Cx} {cl : Cl → Addr} {W : WX} {a b c e : Expr} {es : List Expr} {f g : Ev → Rs PyData} {fs : Ev → Rs (List PyData)} {pos : Pos}

/-! ### from clean to shallow -/
theorem tH_tF {K : PySem.W.Frag} {σ : St} {H : Hp} {Q : VK} (h : tH K cl W f σ H Q) : tF K cl W f σ H Q := by
  obtain ⟨Hm, ρ, s, r, h⟩ := h
  refine ⟨Hm, ρ, s, r, ?_⟩
  cases e : f ρ with
  | st => rw [e] at h; exact h
  | ex c => rw [e] at h; exact h
  | ok d => rw [e] at h; exact fun v Hm' H' g hv => h v Hm' H' g (.inl hv)
/-- a clean expression, where a shallow one will do -/
theorem cs (h : PE X e (tF X.K cl W f)) : PE X e (tH X.K cl W f) := h.le fun _ _ _ q => tH_tF q

/-! ### names and constants -/
theorem de_var {i : Nat} {x : Str} (h : PE X (.Name x pos) (tVar i)) : PE X (.Name x pos) (tF X.K cl W (fVar i)) := h.le fun σ H Q q => by
  obtain ⟨Hm, ρ, s, r, q⟩ := q
  unfold fVar at q
  split at q
  · rename_i d e
    obtain ⟨v, e1, hv⟩ := r.val e
    exact ⟨v, e1, q v Hm H (Grow.refl s) hv⟩
  · exact q.elim
theorem hs_var {i : Nat} {x : Str} (h : PE X (.Name x pos) (tVar i)) : PE X (.Name x pos) (tH X.K cl W (hVar i)) := h.le fun σ H Q q => by
  obtain ⟨Hm, ρ, s, r, q⟩ := q
  unfold hVar at q
  split at q
  · rename_i d e
    obtain ⟨v, e1, hv⟩ := r.val e
    exact ⟨v, e1, q v Hm H (Grow.refl s) (.inl hv)⟩
  · rename_i ds e
    obtain ⟨p, xs, e1, n, hp, ha⟩ := r.own e
    exact ⟨_, e1, q _ Hm H (Grow.refl s) (.inr ⟨p, xs, ds, rfl, hp, ha, rfl⟩)⟩
  · exact q.elim
theorem de_const {v : V} {d : PyData} (h : PE X e (tC v)) (hd : ∀ H, Dp X.K H v d) : PE X e (tF X.K cl W (fC d)) := h.le fun σ H Q q => by
  obtain ⟨Hm, ρ, s, r, q⟩ := q
  exact q v Hm H (Grow.refl s) (hd Hm)
theorem de_int {i : Int} {j : Nat} : PE X (.Constant (.int i) j pos) (tF X.K cl W (fC (.int i))) := de_const pe_int fun _ => .int i
theorem de_bl {i : Bool} {j : Nat} : PE X (.Constant (.bool i) j pos) (tF X.K cl W (fC (.bool i))) := de_const pe_bl fun _ => .bl i
theorem de_non {j : Nat} : PE X (.Constant .none j pos) (tF X.K cl W (fC .none)) := de_const pe_non fun _ => .non
theorem de_str {i : Str} {j : Nat} : PE X (.Constant (.str i) j pos) (tF X.K cl W (fC (.str i))) := de_const pe_str fun _ => .str i

/-! ### two in a row -/
theorem de_bin {r : R2} {o : PyData → PyData → Rs PyData} {t : TE} (ht : t = tOp r (tH X.K cl W f) (tH X.K cl W g)) (h : PE X e t)
    (hr : ∀ (Hm H : Hp) (x y : V) (d d' : PyData) (σ : St) (Q : VK), Same Hm H → Sh X.K Hm H x d → Sh X.K Hm H y d' → FinG (fun Hm _ v d => Dp X.K Hm v d) cl W σ Hm H (o d d') Q → r x y H Q) : PE X e (tF X.K cl W (f2 o f g)) := by
  subst ht
  refine h.le fun σ H Q q => ?_
  obtain ⟨Hm, ρ, s, rp, q⟩ := q
  refine ⟨Hm, ρ, s, rp, FinG.bind q fun d v Hm1 H1 g1 hv q1 => ?_⟩
  exact ⟨Hm1, ρ, g1.s, rp.grow g1, FinG.bind q1 fun d' v' Hm2 H2 g2 hv' q2 => hr Hm2 H2 v v' d d' σ Q g2.s (hv.grow g2) hv' q2⟩
theorem de_op {op : Operator} {r : R2} {o : PyData → PyData → Rs PyData} (ho : OpR X (binaryOp op) r)
    (hr : ∀ (Hm H : Hp) (x y : V) (d d' : PyData) (σ : St) (Q : VK), Same Hm H → Sh X.K Hm H x d → Sh X.K Hm H y d' → FinG (fun Hm _ v d => Dp X.K Hm v d) cl W σ Hm H (o d d') Q → r x y H Q)
    (ha : PE X a (tH X.K cl W f)) (hb : PE X b (tH X.K cl W g)) : PE X (.BinOp a op b pos) (tF X.K cl W (f2 o f g)) := de_bin rfl (pe_op ho ha hb) hr
/-- a finished value, nothing new -/
theorem fin0 {K : PySem.W.Frag} {σ : St} {Hm H : Hp} {v : V} {d : PyData} {Q : VK} (s : Same Hm H) (h : FinG (fun Hm _ v d => Dp K Hm v d) cl W σ Hm H (.ok d) Q) (hv : Dp K Hm v d) : Q v H := h v Hm H (Grow.refl s) hv
/-- a new list, a new tuple -/
theorem finL {K : PySem.W.Frag} {σ : St} {Hm H : Hp} {xs : List V} {ds : List PyData} {Q : VK} (s : Same Hm H) (h : FinG (fun Hm _ v d => Dp K Hm v d) cl W σ Hm H (.ok (.list ds)) Q) (hv : DpAll K Hm xs ds) : ∀ p, H p = none → Q (.ref p) (upd H p (.lst xs)) := fun p hp => by
  have g := Grow.laid (o := .lst xs) s hp
  exact h _ _ _ g (.lst (SqL.of upd_same) (hv.same g.m))
theorem finT {K : PySem.W.Frag} {σ : St} {Hm H : Hp} {xs : List V} {ds : List PyData} {Q : VK} (s : Same Hm H) (h : FinG (fun Hm _ v d => Dp K Hm v d) cl W σ Hm H (.ok (.tuple ds)) Q) (hv : DpAll K Hm xs ds) : ∀ p, H p = none → Q (.ref p) (upd H p (.tup xs)) := fun p hp => by
  have g := Grow.laid (o := .tup xs) s hp
  exact h _ _ _ g (.tup (SqT.of upd_same) (hv.same g.m))

theorem de_sub (ha : PE X a (tH X.K cl W f)) (hb : PE X b (tH X.K cl W g)) : PE X (.BinOp a .Sub b pos) (tF X.K cl W (f2 dSub f g)) :=
  de_op op_sub (fun Hm H x y d d' σ Q s hx hy q => by
    unfold dSub at q
    split at q
    · exact ⟨_, _, hx.int, hy.int, fin0 s q (.int _)⟩
    · exact q.elim) ha hb
theorem de_fdiv (ha : PE X a (tH X.K cl W f)) (hb : PE X b (tH X.K cl W g)) : PE X (.BinOp a .FloorDiv b pos) (tF X.K cl W (f2 dFdiv f g)) :=
  de_op op_fdiv (fun Hm H x y d d' σ Q s hx hy q => by
    unfold dFdiv at q
    split at q
    · split at q
      · rename_i h
        rw [Bool.and_eq_true, decide_eq_true_eq, decide_eq_true_eq] at h
        exact ⟨_, _, hx.int, hy.int, h, fin0 s q (.int _)⟩
      · exact q.elim
    · exact q.elim) ha hb
theorem de_mod (ha : PE X a (tH X.K cl W f)) (hb : PE X b (tH X.K cl W g)) : PE X (.BinOp a .Mod b pos) (tF X.K cl W (f2 dMod f g)) :=
  de_op op_mod (fun Hm H x y d d' σ Q s hx hy q => by
    unfold dMod at q
    split at q
    · split at q
      · rename_i h
        rw [decide_eq_true_eq] at h
        exact ⟨_, _, hx.int, hy.int, h, fin0 s q (.int _)⟩
      · exact q.elim
    · exact q.elim) ha hb
theorem de_pow (ha : PE X a (tH X.K cl W f)) (hb : PE X b (tH X.K cl W g)) : PE X (.BinOp a .Pow b pos) (tF X.K cl W (f2 dPow f g)) :=
  de_op op_pow (fun Hm H x y d d' σ Q s hx hy q => by
    unfold dPow at q
    split at q
    · split at q
      · rename_i h
        rw [Bool.and_eq_true, Bool.and_eq_true, decide_eq_true_eq, decide_eq_true_eq, decide_eq_true_eq] at h
        exact ⟨_, _, hx.int, hy.int, ⟨h.1.1, h.1.2, h.2⟩, fin0 s q (.int _)⟩
      · exact q.elim
    · exact q.elim) ha hb
theorem de_neg (ha : PE X a (tH X.K cl W f)) : PE X (.UnaryOp .USub a pos) (tF X.K cl W (f1 dNeg f)) := (pe_un un_neg ha).le fun σ H Q q => by
  obtain ⟨Hm, ρ, s, rp, q⟩ := q
  refine ⟨Hm, ρ, s, rp, FinG.bind q fun d v Hm1 H1 g1 hv q1 => ?_⟩
  unfold dNeg at q1
  split at q1
  · exact ⟨_, hv.int, fin0 g1.s q1 (.int _)⟩
  · exact q1.elim

/-! lists and tuples added -/
def rCatS (K : PySem.W.Frag) : R2 := fun x y H Q => ∃ l b xs zs, x = .ref l ∧ y = .ref b ∧ SqL K H l xs ∧ SqL K H b zs ∧ xs.length + zs.length ≤ sizeLine ∧ ∀ p, H p = none → Q (.ref p) (upd H p (.lst (xs ++ zs)))
theorem op_catS : OpR X (binaryOp .Add) (rCatS X.K) := by
  intro pins s σ H x y v u Q I rx ry h
  obtain ⟨l, b, xs, zs, rfl, rfl, hH, hB, hz, q⟩ := h
  cases rx
  cases ry
  obtain ⟨its, r, ⟨⟨c1, d1, dt1, sl1⟩, n, e, ec, ed, edt⟩, z⟩ := I.list hH
  obtain ⟨its2, r2, ⟨⟨c2, d2, dt2, sl2⟩, n2, e2, ec2, ed2, edt2⟩, z2⟩ := I.list hB
  simp only at ec ed edt ec2 ed2 edt2
  subst ec ed edt ec2 ed2 edt2
  have hl := r.length
  have hl2 := r2.length
  have ea : its.toArray ++ its2.toArray = (its ++ its2).toArray := by simp
  refine concat_meets ⟨_, e, rfl⟩ ⟨_, e2, rfl⟩ noFill_list_add seq_list_add PySem.F.slot_list_add PySem.F.entry_list_add (PySem.F.args_list_add_2 _ _) (PyProof.Rows.list_addW l b its.toArray its2.toArray n n2 none none sl1 sl2 (by rw [List.size_toArray, List.size_toArray]; omega)) ⟨e, e2, ?_⟩
  rw [ea]
  exact ⟨.ref _, _, I.lnew (t' := s.toks) (r.append r2) (by rw [List.length_append]; omega), rfl, q _ I.fresh⟩

theorem line_eq : sizeLine = 16777216 := sizeLine_eq
theorem de_add (ha : PE X a (tH X.K cl W f)) (hb : PE X b (tH X.K cl W g)) : PE X (.BinOp a .Add b pos) (tF X.K cl W (f2 dAdd f g)) :=
  de_op (op_add.or (op_add_str.or (op_catS.or op_catA))) (fun Hm H x y d d' σ Q s hx hy q => by
    unfold dAdd at q
    split at q
    · exact .inl ⟨_, _, hx.int, hy.int, fin0 s q (.int _)⟩
    · split at q
      · rename_i h
        exact .inr (.inl ⟨_, _, hx.str, hy.str, by rw [line_eq]; exact h, fin0 s q (.str _)⟩)
      · exact q.elim
    · split at q
      · rename_i h
        obtain ⟨p, xs, rfl, h1, h2⟩ := hx.list s
        obtain ⟨p', ys, rfl, h3, h4⟩ := hy.list s
        exact .inr (.inr (.inl ⟨_, _, _, _, rfl, rfl, h1, h3, by rw [line_eq, h2.length, h4.length]; exact h, finL s q (h2.append h4)⟩))
      · exact q.elim
    · split at q
      · rename_i h
        have dx := hx
        have dy := hy
        obtain ⟨p, xs, rfl, h1, h2⟩ := hx.tuple s
        obtain ⟨p', ys, rfl, h3, h4⟩ := hy.tuple s
        refine .inr (.inr (.inr ⟨_, _, _, _, rfl, rfl, h1, h3, by rw [line_eq, h2.length, h4.length]; exact h, fun ex => ?_, fun _ ey => ?_, fun _ _ => finT s q (h2.append h4)⟩))
        · subst ex
          cases h2
          rw [List.nil_append] at q
          rcases dy with dy | ⟨_, _, _, _, _, _, z⟩
          · exact fin0 s q dy
          · cases z
        · subst ey
          cases h4
          rw [List.append_nil] at q
          rcases dx with dx | ⟨_, _, _, _, _, _, z⟩
          · exact fin0 s q dx
          · cases z
      · exact q.elim
    · exact q.elim) ha hb
theorem de_mul (ha : PE X a (tH X.K cl W f)) (hb : PE X b (tH X.K cl W g)) : PE X (.BinOp a .Mult b pos) (tF X.K cl W (f2 dMul f g)) :=
  de_op (op_mul.or op_repT) (fun Hm H x y d d' σ Q s hx hy q => by
    unfold dMul at q
    split at q
    · split at q
      · rename_i h
        rw [Bool.or_eq_true, Bool.and_eq_true, Bool.and_eq_true, decide_eq_true_eq, decide_eq_true_eq, decide_eq_true_eq, decide_eq_true_eq] at h
        exact .inl ⟨_, _, hx.int, hy.int, h, fin0 s q (.int _)⟩
      · exact q.elim
    · split at q
      · rename_i h
        rw [Bool.and_eq_true, Bool.and_eq_true, Bool.and_eq_true, decide_eq_true_eq, decide_eq_true_eq, decide_eq_true_eq] at h
        obtain ⟨p, xs, rfl, h1, h2⟩ := hx.tuple s
        refine .inr ⟨_, _, _, rfl, hy.int, h1, fun z => ?_, h.1.1.1, h.1.1.2, by rw [h2.length]; exact h.1.2, finT s q (h2.rep _)⟩
        subst z
        cases h2
        exact Bool.noConfusion h.2
      · exact q.elim
    · exact q.elim) ha hb
/-- a comparison by its meaning -/
def CmpD (X : Cx) (cl : Cl → Addr) (W : WX) (op : CmpOp) (o : PyData → PyData → Rs PyData) : Prop := ∃ r : R2, OpR X (compareOp op) r ∧
  ∀ (Hm H : Hp) (x y : V) (d d' : PyData) (σ : St) (Q : VK), Same Hm H → Sh X.K Hm H x d → Sh X.K Hm H y d' → FinG (fun Hm _ v d => Dp X.K Hm v d) cl W σ Hm H (o d d') Q → r x y H Q
theorem cd_lt : CmpD X cl W .Lt dLt := ⟨_, op_lt, fun Hm H x y d d' σ Q s hx hy q => by
    unfold dLt at q
    split at q
    · exact ⟨_, _, hx.int, hy.int, fin0 s q (.bl _)⟩
    · exact q.elim⟩
theorem cd_le : CmpD X cl W .LtE dLe := ⟨_, op_le, fun Hm H x y d d' σ Q s hx hy q => by
    unfold dLe at q
    split at q
    · exact ⟨_, _, hx.int, hy.int, fin0 s q (.bl _)⟩
    · exact q.elim⟩
theorem cd_gt : CmpD X cl W .Gt dGt := ⟨_, op_gt, fun Hm H x y d d' σ Q s hx hy q => by
    unfold dGt at q
    split at q
    · exact ⟨_, _, hx.int, hy.int, fin0 s q (.bl _)⟩
    · exact q.elim⟩
theorem cd_ge : CmpD X cl W .GtE dGe := ⟨_, op_ge, fun Hm H x y d d' σ Q s hx hy q => by
    unfold dGe at q
    split at q
    · exact ⟨_, _, hx.int, hy.int, fin0 s q (.bl _)⟩
    · exact q.elim⟩
theorem dp_none {K : PySem.W.Frag} {H : Hp} {v : V} {d : PyData} (h : Dp K H v d) : decide (v = .non) = dIsNone d := by
  cases h <;> rfl
theorem sh_none {K : PySem.W.Frag} {Hm H : Hp} {v : V} {d : PyData} (s : Same Hm H) (h : Sh K Hm H v d) : decide (v = .non) = dIsNone d := dp_none (h.dp s)
theorem cd_is : CmpD X cl W .Is dIs := ⟨_, op_isN, fun Hm H x y d d' σ Q s hx hy q => by
    unfold dIs at q
    split at q
    · exact ⟨hy.none, by rw [sh_none s hx]; exact fin0 s q (.bl _)⟩
    · exact q.elim⟩
theorem cd_isnot : CmpD X cl W .IsNot dIsNot := ⟨_, op_notN, fun Hm H x y d d' σ Q s hx hy q => by
    unfold dIsNot at q
    split at q
    · exact ⟨hy.none, by rw [sh_none s hx]; exact fin0 s q (.bl _)⟩
    · exact q.elim⟩
theorem de_cmp {op : CmpOp} {o : PyData → PyData → Rs PyData} (hc : CmpD X cl W op o) (ha : PE X a (tH X.K cl W f)) (hb : PE X b (tH X.K cl W g)) (hm : behindInMarks op b = false) : PE X (.Compare a [op] [b] pos) (tF X.K cl W (f2 o f g)) :=
  let ⟨_, ho, hr⟩ := hc
  de_bin rfl (pe_cmpR ho ha hb hm) hr
/-- as a test -/
theorem dt_cmp {op : CmpOp} {o : PyData → PyData → Rs PyData} (hc : CmpD X cl W op o) (ha : PE X a (tH X.K cl W f)) (hb : PE X b (tH X.K cl W g)) (hm : behindInMarks op b = false) : PT X (.Compare a [op] [b] pos) (tQ X.K cl W (qVal (f2 o f g))) := by
  obtain ⟨r, ho, hr⟩ := hc
  refine (pt_cmpR ho ha hb hm).le fun σ H Q q => ?_
  obtain ⟨Hm, ρ, s, rp, q⟩ := q
  have q0 : FinG (fun _ _ b c => b = c) cl W σ Hm H ((f ρ).bind fun x => ((g ρ).bind fun y => o x y).bind bolD) Q := by
    cases e : f ρ <;> simp only [qVal, f2, e, Rs.bind] at q ⊢ <;> exact q
  refine ⟨Hm, ρ, s, rp, FinG.bind q0 fun d v Hm1 H1 g1 hv q1 => ?_⟩
  have q2 : FinG (fun _ _ b c => b = c) cl W σ Hm1 H1 ((g ρ).bind fun y => (o d y).bind bolD) Q := by
    cases e : g ρ <;> simp only [e, Rs.bind] at q1 ⊢ <;> exact q1
  refine ⟨Hm1, ρ, g1.s, rp.grow g1, FinG.bind q2 fun d' v' Hm2 H2 g2 hv' q3 => hr Hm2 H2 v v' d d' σ _ g2.s (hv.grow g2) hv' ?_⟩
  refine FinG.bind q3 fun z vz Hm3 H3 g3 hz q4 => ?_
  unfold bolD at q4
  split at q4
  · cases hz
    exact ⟨_, rfl, q4 _ Hm3 H3 (Grow.refl g3.s) rfl⟩
  · exact q4.elim
/-- a op b op' c -/
def fChain (o o' : PyData → PyData → Rs PyData) (f g h : Ev → Rs PyData) : Ev → Rs PyData := fun ρ => (f ρ).bind fun x => (g ρ).bind fun y => (o x y).bind fun z => match z with
  | .bool true => (h ρ).bind fun u => o' y u
  | .bool false => .ok (.bool false)
  | _ => .st
/-! ### arguments, displays -/
theorem da_nil : PA X [] (tAr X.K cl W fA0) := pa_nil.le fun σ H Q q => by
  obtain ⟨Hm, ρ, s, rp, q⟩ := q
  exact q [] Hm H (Grow.refl s) .nil
theorem da_cons (ha : PE X e (tH X.K cl W f)) (hr : PA X es (tAr X.K cl W fs)) (hs : starEach (e :: es) X.env = (false, eval e X.env) :: starEach es X.env := by rfl) : PA X (e :: es) (tAr X.K cl W (fAc f fs)) := (pa_cons ha hr hs).le fun σ H Q q => by
  obtain ⟨Hm, ρ, s, rp, q⟩ := q
  refine ⟨Hm, ρ, s, rp, FinG.bind q fun d v Hm1 H1 g1 hv q1 => ?_⟩
  refine ⟨Hm1, ρ, g1.s, rp.grow g1, FinG.bind q1 fun ds vs Hm2 H2 g2 hvs q2 => ?_⟩
  exact q2 _ Hm2 H2 (Grow.refl g2.s) (.cons (hv.grow g2) hvs)
/-- clean arguments -/
theorem dc_nil : PA X [] (tAc X.K cl W fA0) := pa_nil.le fun σ H Q q => by
  obtain ⟨Hm, ρ, s, rp, q⟩ := q
  exact q [] Hm H (Grow.refl s) .nil
theorem dc_cons (ha : PE X e (tF X.K cl W f)) (hr : PA X es (tAc X.K cl W fs)) (hs : starEach (e :: es) X.env = (false, eval e X.env) :: starEach es X.env := by rfl) : PA X (e :: es) (tAc X.K cl W (fAc f fs)) := (pa_cons ha hr hs).le fun σ H Q q => by
  obtain ⟨Hm, ρ, s, rp, q⟩ := q
  refine ⟨Hm, ρ, s, rp, FinG.bind q fun d v Hm1 H1 g1 hv q1 => ?_⟩
  refine ⟨Hm1, ρ, g1.s, rp.grow g1, FinG.bind q1 fun ds vs Hm2 H2 g2 hvs q2 => ?_⟩
  exact q2 _ Hm2 H2 (Grow.refl g2.s) (.cons (hv.same g2.m) hvs)
theorem de_lst (h : PA X es (tAc X.K cl W fs)) : PE X (.List es pos) (tF X.K cl W (fCall fLst fs)) := (pe_lst h).le fun σ H Q q => by
  obtain ⟨Hm, ρ, s, rp, q⟩ := q
  refine ⟨Hm, ρ, s, rp, FinG.bind q fun ds vs Hm1 H1 g1 hv q1 => ?_⟩
  unfold fLst at q1
  split at q1
  · rename_i h
    exact ⟨by rw [line_eq, hv.length]; exact h, finL g1.s q1 hv⟩
  · exact q1.elim
theorem de_tup {k : Nat} (h : PA X es (tAc X.K cl W fs)) : PE X (.Tuple es k pos) (tF X.K cl W (fCall fTup fs)) := (pe_tup h).le fun σ H Q q => by
  obtain ⟨Hm, ρ, s, rp, q⟩ := q
  refine ⟨Hm, ρ, s, rp, FinG.bind q fun ds vs Hm1 H1 g1 hv q1 => ?_⟩
  unfold fTup at q1
  split at q1
  · rename_i h
    exact ⟨by rw [line_eq, hv.length]; exact h, finT g1.s q1 hv⟩
  · exact q1.elim

/-! ### tests -/
variable {qf qg : Ev → Rs Bool} {rest : List Expr}
theorem dt_val (h : PE X e (tF X.K cl W f)) (he : ∀ whole, isTrue e X.env whole = (do let v ← whole; standAt e.pos; holding [v] (truthy v)) := by intro _; rfl) : PT X e (tQ X.K cl W (qVal f)) := (pt_val h he).le fun σ H Q q => by
  obtain ⟨Hm, ρ, s, rp, q⟩ := q
  refine ⟨Hm, ρ, s, rp, FinG.bind q fun d v Hm1 H1 g1 hv q1 => ?_⟩
  unfold bolD at q1
  split at q1
  · cases hv
    exact ⟨_, rfl, q1 _ Hm1 H1 (Grow.refl g1.s) rfl⟩
  · exact q1.elim
theorem dt_tru (h : PE X e (tH X.K cl W f)) (he : ∀ whole, isTrue e X.env whole = (do let v ← whole; standAt e.pos; holding [v] (truthy v)) := by intro _; rfl) : PT X e (tQ X.K cl W (qTru f)) := (pt_truth h he).le fun σ H Q q => by
  obtain ⟨Hm, ρ, s, rp, q⟩ := q
  refine ⟨Hm, ρ, s, rp, FinG.bind q fun d v Hm1 H1 g1 hv q1 => ?_⟩
  unfold truD at q1
  split at q1
  · rw [hv.none]; exact ⟨_, rfl, q1 _ Hm1 H1 (Grow.refl g1.s) rfl⟩
  · rw [hv.bool]; exact ⟨_, rfl, q1 _ Hm1 H1 (Grow.refl g1.s) rfl⟩
  · rw [hv.int]; exact ⟨_, rfl, q1 _ Hm1 H1 (Grow.refl g1.s) rfl⟩
  · obtain ⟨p, xs, rfl, h1, h2⟩ := hv.list g1.s
    refine ⟨_, .inl ⟨xs, h1, rfl⟩, q1 _ Hm1 H1 (Grow.refl g1.s) ?_⟩
    cases h2 <;> rfl
  · obtain ⟨p, xs, rfl, h1, h2⟩ := hv.tuple g1.s
    refine ⟨_, .inr (.inl ⟨xs, h1, rfl⟩), q1 _ Hm1 H1 (Grow.refl g1.s) ?_⟩
    cases h2 <;> rfl
  · exact q1.elim
theorem dw_and1 (ha : PT X a (tQ X.K cl W qf)) : PW X (.BoolOp .And [a] pos) (tQ X.K cl W qf) := pw_and1 ha
theorem dw_or1 (ha : PT X a (tQ X.K cl W qf)) : PW X (.BoolOp .Or [a] pos) (tQ X.K cl W qf) := pw_or1 ha
theorem dw_and (ha : PT X a (tQ X.K cl W qf)) (hb : PW X (.BoolOp .And (b :: rest) pos) (tQ X.K cl W qg)) : PW X (.BoolOp .And (a :: b :: rest) pos) (tQ X.K cl W (qAnd qf qg)) := (pw_and ha hb).le fun σ H Q q => by
  obtain ⟨Hm, ρ, s, rp, q⟩ := q
  refine ⟨Hm, ρ, s, rp, FinG.bind q fun d v Hm1 H1 g1 hv q1 => ?_⟩
  cases hv
  cases d with
  | true => exact ⟨Hm1, ρ, g1.s, rp.grow g1, q1⟩
  | false => exact q1 _ Hm1 H1 (Grow.refl g1.s) rfl
theorem dw_or (ha : PT X a (tQ X.K cl W qf)) (hb : PW X (.BoolOp .Or (b :: rest) pos) (tQ X.K cl W qg)) : PW X (.BoolOp .Or (a :: b :: rest) pos) (tQ X.K cl W (qOr qf qg)) := (pw_or ha hb).le fun σ H Q q => by
  obtain ⟨Hm, ρ, s, rp, q⟩ := q
  refine ⟨Hm, ρ, s, rp, FinG.bind q fun d v Hm1 H1 g1 hv q1 => ?_⟩
  cases hv
  cases d with
  | false => exact ⟨Hm1, ρ, g1.s, rp.grow g1, q1⟩
  | true => exact q1 _ Hm1 H1 (Grow.refl g1.s) rfl
theorem dt_not (ha : PT X a (tQ X.K cl W qf)) : PT X (.UnaryOp .Not a pos) (tQ X.K cl W (qNot qf)) := (pt_not ha).le fun σ H Q q => by
  obtain ⟨Hm, ρ, s, rp, q⟩ := q
  refine ⟨Hm, ρ, s, rp, FinG.bind q fun d v Hm1 H1 g1 hv q1 => ?_⟩
  cases hv
  exact q1 _ Hm1 H1 (Grow.refl g1.s) rfl
/-! .. as values -/
theorem de_one {op : BoolOp} (h : PE X a (tF X.K cl W f)) : PE X (.BoolOp op [a] pos) (tF X.K cl W f) := pe_one h
theorem de_and (ha : PE X a (tF X.K cl W f)) (hb : PE X (.BoolOp .And (b :: rest) pos) (tF X.K cl W g)) : PE X (.BoolOp .And (a :: b :: rest) pos) (tF X.K cl W (fAnd f g)) := (pe_and ha hb).le fun σ H Q q => by
  obtain ⟨Hm, ρ, s, rp, q⟩ := q
  refine ⟨Hm, ρ, s, rp, FinG.bind q fun d v Hm1 H1 g1 hv q1 => ?_⟩
  split at q1
  · cases hv
    exact ⟨_, rfl, iteT ⟨Hm1, ρ, g1.s, rp.grow g1, q1⟩⟩
  · cases hv
    exact ⟨_, rfl, iteF (fin0 g1.s q1 (.bl _))⟩
  · exact q1.elim
theorem de_or (ha : PE X a (tF X.K cl W f)) (hb : PE X (.BoolOp .Or (b :: rest) pos) (tF X.K cl W g)) : PE X (.BoolOp .Or (a :: b :: rest) pos) (tF X.K cl W (fOr f g)) := (pe_or ha hb).le fun σ H Q q => by
  obtain ⟨Hm, ρ, s, rp, q⟩ := q
  refine ⟨Hm, ρ, s, rp, FinG.bind q fun d v Hm1 H1 g1 hv q1 => ?_⟩
  split at q1
  · cases hv
    exact ⟨_, rfl, iteF ⟨Hm1, ρ, g1.s, rp.grow g1, q1⟩⟩
  · cases hv
    exact ⟨_, rfl, iteT (fin0 g1.s q1 (.bl _))⟩
  · exact q1.elim
end
end Bh
namespace Bh
open PySem PySem.Spec L2

/-- Python's == of data -/
def dEq (x y : PyData) : Rs PyData := if SeqAt.shaped x && SeqAt.shaped y then .ok (.bool (PyData.eqv x y)) else .st
def dNe (x y : PyData) : Rs PyData := if SeqAt.shaped x && SeqAt.shaped y then .ok (.bool (!PyData.eqv x y)) else .st
/-- flat things -/
def flatD : PyData → Bool
  | .none => true
  | .bool _ => true
  | .int _ => true
  | .str _ => true
  | _ => false
def eqF : PyData → PyData → Bool
  | .none, .none => true
  | .bool a, .bool b => a == b
  | .bool a, .int b => (if a then 1 else 0) == b
  | .int a, .bool b => a == (if b then 1 else 0)
  | .int a, .int b => a == b
  | .str a, .str b => decide (a = b)
  | _, _ => false
def itemsD : PyData → Option (List PyData)
  | .list xs => some xs
  | .tuple xs => some xs
  | _ => none
def atD (xs : List PyData) (i : Int) : Rs PyData := match atI xs i with
  | some d => .ok d
  | none => .st
def dIx : PyData → PyData → Rs PyData
  | .list xs, .int i => atD xs i
  | .tuple xs, .int i => atD xs i
  | .str z, .int i => if z.length ≤ 16777216 then (match atI z.cps.toList i with
    | some c => .ok (.str ⟨#[c]⟩)
    | none => .st) else .st
  | _, _ => .st
def cutD (xs : List PyData) (lo hi : Option Int) : List PyData := (xs.drop (HT.sIx xs.length 0 lo)).take (HT.sIx xs.length xs.length hi - HT.sIx xs.length 0 lo)
def dSl (d : PyData) (lo hi : Option Int) : Rs PyData := match d with
  | .list xs => .ok (.list (cutD xs lo hi))
  | .tuple xs => .ok (.tuple (cutD xs lo hi))
  | .str z => if z.length ≤ 16777216 then .ok (.str (cutS z lo hi)) else .st
  | _ => .st
def intD : PyData → Rs (Option Int)
  | .int i => .ok (some i)
  | _ => .st
def oNone : Ev → Rs (Option Int) := fun _ => .ok none
def oSome (f : Ev → Rs PyData) : Ev → Rs (Option Int) := fun ρ => (f ρ).bind intD
def fSl (f : Ev → Rs PyData) (lo hi : Ev → Rs (Option Int)) : Ev → Rs PyData := fun ρ => (f ρ).bind fun d => (lo ρ).bind fun l => (hi ρ).bind fun h => dSl d l h
def inD (neg : Bool) (x y : PyData) : Rs PyData := match y with
  | .list ys => if flatD x && ys.all flatD then .ok (.bool (if neg then !(ys.any fun y => eqF y x) else ys.any fun y => eqF y x)) else .st
  | .tuple ys => if flatD x && ys.all flatD then .ok (.bool (if neg then !(ys.any fun y => eqF y x) else ys.any fun y => eqF y x)) else .st
  | .str z => match x with
    | .str ⟨cs⟩ => match cs.toList with
      | [c] => .ok (.bool (if neg then !decide (c ∈ z.cps.toList) else decide (c ∈ z.cps.toList)))
      | _ => .st
    | _ => .st
  | _ => .st

section
variable {X : Cx} {cl : Cl → Addr} {W : WX} {a b c e : Expr} {es : List Expr} {f g h : Ev → Rs PyData} {fs : Ev → Rs (List PyData)} {pos : Pos}

theorem de_chain {op op' : CmpOp} {o o' : PyData → PyData → Rs PyData} (hc : CmpD X cl W op o) (hc' : CmpD X cl W op' o') (ha : PE X a (tH X.K cl W f)) (hb : PE X b (tH X.K cl W g)) (he : PE X c (tH X.K cl W h))
    (hm : lastMarks [op, op'] [b, c] = false := by with_unfolding_all rfl) : PE X (.Compare a [op, op'] [b, c] pos) (tF X.K cl W (fChain o o' f g h)) := by
  obtain ⟨r, ho, hr⟩ := hc
  obtain ⟨r', ho', hr'⟩ := hc'
  refine (pe_chain ho ho' ha hb he hm).le fun σ H Q q => ?_
  obtain ⟨Hm, ρ, s, rp, q⟩ := q
  refine ⟨Hm, ρ, s, rp, FinG.bind q fun d v Hm1 H1 g1 hv q1 => ?_⟩
  refine ⟨Hm1, ρ, g1.s, rp.grow g1, FinG.bind q1 fun d' v' Hm2 H2 g2 hv' q2 => ?_⟩
  refine hr Hm2 H2 v v' d d' σ _ g2.s (hv.grow g2) hv' (FinG.bind q2 fun z vz Hm3 H3 g3 hz q3 => ?_)
  split at q3
  · cases hz
    refine ⟨_, rfl, iteT ⟨Hm3, ρ, g3.s, ((rp.grow g1).grow g2).grow g3, FinG.bind q3 fun d4 v4 Hm4 H4 g4 hv4 q4 => ?_⟩⟩
    exact hr' Hm4 H4 v' v4 d' d4 σ _ g4.s ((hv'.grow g3).grow g4) hv4 q4
  · cases hz
    exact ⟨_, rfl, iteF (fin0 g3.s q3 (.bl _))⟩
  · exact q3.elim
theorem dt_chain {op op' : CmpOp} {o o' : PyData → PyData → Rs PyData} (hc : CmpD X cl W op o) (hc' : CmpD X cl W op' o') (ha : PE X a (tH X.K cl W f)) (hb : PE X b (tH X.K cl W g)) (he : PE X c (tH X.K cl W h))
    (hm : lastMarks [op, op'] [b, c] = false := by with_unfolding_all rfl) : PT X (.Compare a [op, op'] [b, c] pos) (tQ X.K cl W (qVal (fChain o o' f g h))) := by
  obtain ⟨r, ho, hr⟩ := hc
  obtain ⟨r', ho', hr'⟩ := hc'
  refine (pt_chain ho ho' ha hb he hm).le fun σ H Q q => ?_
  obtain ⟨Hm, ρ, s, rp, q⟩ := q
  have q0 : FinG (fun _ _ b c => b = c) cl W σ Hm H ((f ρ).bind fun x => (g ρ).bind fun y => (o x y).bind fun z => match z with
      | .bool true => (h ρ).bind fun u => (o' y u).bind bolD
      | .bool false => .ok false
      | _ => .st) Q := by
    revert q
    show FinG _ cl W σ Hm H (((f ρ).bind fun x => (g ρ).bind fun y => (o x y).bind fun z => match z with
      | .bool true => (h ρ).bind fun u => o' y u
      | .bool false => .ok (.bool false)
      | _ => .st).bind bolD) Q → _
    intro q
    cases e1 : f ρ with
    | st => rw [e1] at q; exact q
    | ex c => rw [e1] at q; exact q
    | ok d1 =>
      rw [e1] at q
      simp only [Rs.bind_ok] at q ⊢
      cases e2 : g ρ with
      | st => rw [e2] at q; exact q
      | ex c => rw [e2] at q; exact q
      | ok d2 =>
        rw [e2] at q
        simp only [Rs.bind_ok] at q ⊢
        cases e3 : o d1 d2 with
        | st => rw [e3] at q; exact q
        | ex c => rw [e3] at q; exact q
        | ok d3 =>
          rw [e3] at q
          simp only [Rs.bind_ok] at q ⊢
          split at q
          · cases e4 : h ρ with
            | st => rw [e4] at q; exact q
            | ex c => rw [e4] at q; exact q
            | ok d4 => rw [e4] at q; exact q
          · exact q
          · exact q.elim
  refine ⟨Hm, ρ, s, rp, FinG.bind q0 fun d v Hm1 H1 g1 hv q1 => ?_⟩
  refine ⟨Hm1, ρ, g1.s, rp.grow g1, FinG.bind q1 fun d' v' Hm2 H2 g2 hv' q2 => ?_⟩
  refine hr Hm2 H2 v v' d d' σ _ g2.s (hv.grow g2) hv' (FinG.bind q2 fun z vz Hm3 H3 g3 hz q3 => ?_)
  split at q3
  · cases hz
    refine ⟨_, rfl, iteT ⟨Hm3, ρ, g3.s, ((rp.grow g1).grow g2).grow g3, FinG.bind q3 fun d4 v4 Hm4 H4 g4 hv4 q4 => ?_⟩⟩
    refine hr' Hm4 H4 v' v4 d' d4 σ _ g4.s ((hv'.grow g3).grow g4) hv4 (FinG.bind q4 fun z5 v5 Hm5 H5 g5 hz5 q5 => ?_)
    unfold bolD at q5
    split at q5
    · cases hz5
      exact ⟨_, rfl, q5 _ Hm5 H5 (Grow.refl g5.s) rfl⟩
    · exact q5.elim
  · cases hz
    exact ⟨_, rfl, iteF ⟨_, rfl, q3 _ Hm3 H3 (Grow.refl g3.s) rfl⟩⟩
  · exact q3.elim

/-! ### == and in -/
theorem cd_eq (hu : X.A.units + 64 < cLine) : CmpD X cl W .Eq dEq := ⟨_, op_eqD hu, fun Hm H x y d d' σ Q s hx hy q => by
  unfold dEq at q
  split at q
  · rename_i z
    rw [Bool.and_eq_true] at z
    exact ⟨d, d', hx.dp s, hy.dp s, z.1, z.2, fin0 s q (.bl _)⟩
  · exact q.elim⟩
theorem cd_ne (hu : X.A.units + 64 < cLine) : CmpD X cl W .NotEq dNe := ⟨_, op_neD hu, fun Hm H x y d d' σ Q s hx hy q => by
  unfold dNe at q
  split at q
  · rename_i z
    rw [Bool.and_eq_true] at z
    exact ⟨d, d', hx.dp s, hy.dp s, z.1, z.2, fin0 s q (.bl _)⟩
  · exact q.elim⟩
theorem flat_dp {K : PySem.W.Frag} {H : Hp} {v : V} {d : PyData} (h : Dp K H v d) (f : flatD d = true) : flatV v = true := by
  cases h <;> first | rfl | cases f
theorem flat_all {K : PySem.W.Frag} {H : Hp} : ∀ {vs : List V} {ds : List PyData}, DpAll K H vs ds → ds.all flatD = true → vs.all flatV = true
  | _, _, .nil, _ => rfl
  | _, _, .cons h t, f => by
    rw [List.all_cons, Bool.and_eq_true] at f ⊢
    exact ⟨flat_dp h f.1, flat_all t f.2⟩
theorem eqF_dp {K : PySem.W.Frag} {H : Hp} {v w : V} {d e : PyData} (h : Dp K H v d) (h' : Dp K H w e) (f : flatD d = true) (f' : flatD e = true) : eqV v w = eqF d e := by
  cases h <;> cases h' <;> first | rfl | cases f | cases f' | skip
  all_goals first
    | (simp only [eqV, eqF]; done)
    | (rename_i x y; cases x <;> cases y <;> rfl)
    | (rename_i x y; cases x <;> rfl)
    | (rename_i x y; cases y <;> rfl)
end
end Bh
namespace Bh
open PySem PySem.Spec L2

/-! ### statements -/
inductive Out where
  | nx (ρ : Ev)
  | rt (d : PyData)
  | bk (ρ : Ev)
  | ct (ρ : Ev)

structure StOk (K : PySem.W.Frag) (n : Nat) (Hm0 H0 Hm H : Hp) (σ : St) (ρ : Ev) : Prop where
  g : Grow Hm0 H0 Hm H
  r : Rep K Hm H σ ρ
  o : ∀ (i : Nat) s p, ρ[i]? = some s → s.isOwn = true → σ[i]? = some (some (V.ref p)) → H0 p = none
  len : ρ.length = n

theorem StOk.grow {K : PySem.W.Frag} {n : Nat} {Hm0 H0 Hm H Hm' H' : Hp} {σ : St} {ρ : Ev} (x : StOk K n Hm0 H0 Hm H σ ρ) (g : Grow Hm H Hm' H') : StOk K n Hm0 H0 Hm' H' σ ρ := ⟨x.g.trans g, x.r.grow g, x.o, x.len⟩

def FinS (K : PySem.W.Frag) (cl : Cl → Addr) (W : WX) (n : Nat) (Hm0 H0 : Hp) (r : Rs Out) (D : Ends) : Prop :=
  match r with
  | .st => False
  | .ex c => ∀ σ' ρ' Hm' H', StOk K n Hm0 H0 Hm' H' σ' ρ' → W (.ref (cl c)) none σ' H'
  | .ok (.nx ρ') => ∀ σ' Hm' H', StOk K n Hm0 H0 Hm' H' σ' ρ' → D.nx σ' H'
  | .ok (.bk ρ') => ∀ σ' Hm' H', StOk K n Hm0 H0 Hm' H' σ' ρ' → D.bk σ' H'
  | .ok (.ct ρ') => ∀ σ' Hm' H', StOk K n Hm0 H0 Hm' H' σ' ρ' → D.ct σ' H'
  | .ok (.rt d) => ∀ v Hm' H', Grow Hm0 H0 Hm' H' → Dp K Hm' v d → D.rt v H'

def tS (K : PySem.W.Frag) (cl : Cl → Addr) (W : WX) (n : Nat) (S : Ev → Rs Out) : TS := fun D σ H =>
  ∃ Hm0 H0 Hm ρ, StOk K n Hm0 H0 Hm H σ ρ ∧ FinS K cl W n Hm0 H0 (S ρ) D

/-- an expression within a statement -/
theorem expr_in {K : PySem.W.Frag} {cl : Cl → Addr} {W : WX} {n : Nat} {Hm0 H0 Hm H : Hp} {σ : St} {ρ : Ev} {D : Ends} {α β : Type} {R : Hp → Hp → β → α → Prop} {r : Rs α} {k : α → Rs Out} {P : β → Hp → Prop} (x : StOk K n Hm0 H0 Hm H σ ρ)
    (q : FinS K cl W n Hm0 H0 (r.bind k) D) (hk : ∀ a b Hm1 H1, Grow Hm H Hm1 H1 → R Hm1 H1 b a → FinS K cl W n Hm0 H0 (k a) D → P b H1) : FinG R cl W σ Hm H r P := by
  cases r with
  | st => exact q
  | ex c => exact fun Hm' H' g => q σ ρ Hm' H' (x.grow g)
  | ok a => exact fun b Hm1 H1 g hb => hk a b Hm1 H1 g hb q

def sNil : Ev → Rs Out := fun ρ => .ok (.nx ρ)
def seqO (S : Ev → Rs Out) : Out → Rs Out
  | .nx ρ => S ρ
  | o => .ok o
def sSeq (S T : Ev → Rs Out) : Ev → Rs Out := fun ρ => (S ρ).bind (seqO T)
def sRet (f : Ev → Rs PyData) : Ev → Rs Out := fun ρ => (f ρ).bind fun d => .ok (.rt d)
def sRetOwn (i : Nat) : Ev → Rs Out := fun ρ => match ρ[i]? with
  | some (.own ds) => .ok (.rt (.list ds))
  | _ => .st
def sIf (q : Ev → Rs Bool) (S T : Ev → Rs Out) : Ev → Rs Out := fun ρ => (q ρ).bind fun b => if b = true then S ρ else T ρ
def sExpr (f : Ev → Rs PyData) : Ev → Rs Out := fun ρ => (f ρ).bind fun _ => .ok (.nx ρ)
def sSet (i : Nat) (f : Ev → Rs PyData) : Ev → Rs Out := fun ρ => (f ρ).bind fun d => .ok (.nx (ρ.set i (.val d)))
def sSetOwn (i : Nat) (f : Ev → Rs (List PyData)) : Ev → Rs Out := fun ρ => (f ρ).bind fun ds => .ok (.nx (ρ.set i (.own ds)))
def sAppend (i : Nat) (f : Ev → Rs PyData) : Ev → Rs Out := fun ρ => match ρ[i]? with
  | some (.own ds) => (f ρ).bind fun d => if ds.length < 16777216 then .ok (.nx (ρ.set i (.own (ds ++ [d])))) else .st
  | _ => .st
def sExtend (i : Nat) (f : Ev → Rs PyData) : Ev → Rs Out := fun ρ => match ρ[i]? with
  | some (.own ds) => (f ρ).bind fun d => match itemsD d with
    | some es => if ds.length + es.length ≤ 16777216 then .ok (.nx (ρ.set i (.own (ds ++ es)))) else .st
    | none => .st
  | _ => .st
def sRaise (c : Cl) : Ev → Rs Out := fun _ => .ex c
/-- names to a tuple's items -/
def gsN : List Nat → List PyData → Ev → Option Ev
  | [], [], ρ => some ρ
  | i :: is, d :: ds, ρ => gsN is ds (ρ.set i (.val d))
  | _, _, _ => none
def gsT (is : List Nat) (d : PyData) (ρ : Ev) : Option Ev := match d with
  | .tuple ds => gsN is ds ρ
  | _ => none
def gs1 (i : Nat) (d : PyData) (ρ : Ev) : Option Ev := some (ρ.set i (.val d))
def sAsg (gs : PyData → Ev → Option Ev) (f : Ev → Rs PyData) : Ev → Rs Out := fun ρ => (f ρ).bind fun d => match gs d ρ with
  | some ρ' => .ok (.nx ρ')
  | none => .st

/-- what a target's reading must give -/
def GOk (K : PySem.W.Frag) (g : TG) (vs : List Nat) (gs : PyData → Ev → Option Ev) : Prop :=
  ∀ (Hm H : Hp) (σ : St) (ρ : Ev) (v : V) (d : PyData) (Q : St → Hp → Prop), Same Hm H → Rep K Hm H σ ρ → Dp K Hm v d →
    (match gs d ρ with
      | some ρ' => ∀ σ', Rep K Hm H σ' ρ' → ρ'.length = ρ.length → (∀ (i : Nat) s, ρ'[i]? = some s → s.isOwn = true → ρ[i]? = some s ∧ σ'[i]? = σ[i]?) → wipe σ' vs = wipe σ vs → wipeR ρ' vs = wipeR ρ vs → Q σ' H
      | none => False) → g v σ H Q

section
variable {X : Cx} {cl : Cl → Addr} {W : WX} {a b c e : Expr} {es : List Expr} {st : Stmt} {body rest : List Stmt} {f g : Ev → Rs PyData} {fs : Ev → Rs (List PyData)} {S T : Ev → Rs Out} {q : Ev → Rs Bool} {pos : Pos} {n : Nat}

theorem ds_nil : PSs X [] (tS X.K cl W n sNil) := pss_nil.le fun D σ H q => by
  obtain ⟨Hm0, H0, Hm, ρ, x, q⟩ := q
  exact q σ Hm H x
theorem ds_one (h : PS X st (tS X.K cl W n S)) : PSs X [st] (tS X.K cl W n S) := pss_one h
theorem ds_cons (h : PS X st (tS X.K cl W n S)) (h2 : PSs X rest (tS X.K cl W n T)) : PSs X (st :: rest) (tS X.K cl W n (sSeq S T)) := (pss_cons h h2).le fun D σ H q => by
  obtain ⟨Hm0, H0, Hm, ρ, x, q⟩ := q
  refine ⟨Hm0, H0, Hm, ρ, x, ?_⟩
  unfold sSeq at q
  cases e : S ρ with
  | st => rw [e] at q; exact q
  | ex c => rw [e] at q; exact q
  | ok o =>
    rw [e] at q
    cases o with
    | nx ρ' => exact fun σ' Hm' H' y => ⟨Hm0, H0, Hm', ρ', y, q⟩
    | rt d => exact q
    | bk ρ' => exact q
    | ct ρ' => exact q
theorem ds_ret (h : PE X e (tF X.K cl W f)) : PS X (.Return (some e) pos) (tS X.K cl W n (sRet f)) := (ps_ret h).le fun D σ H q => by
  obtain ⟨Hm0, H0, Hm, ρ, x, q⟩ := q
  exact ⟨Hm, ρ, x.g.s, x.r, expr_in x q fun d v Hm1 H1 g1 hv q1 => q1 v Hm1 H1 (x.g.trans g1) hv⟩
theorem frozen {Hm0 H0 Hm H : Hp} {p : Addr} {o : HO} (g : Grow Hm0 H0 Hm H) (n : Hm p = none) (hp : H p = some o) (n0 : H0 p = none) : Grow Hm0 H0 (upd Hm p o) H where
  m := g.m.trans (same_upd n)
  s := fun b x e => by
    by_cases hb : b = p
    · subst hb
      rw [upd_same] at e
      exact hp.trans e
    · rw [upd_ne hb] at e
      exact g.s b x e
  h := g.h
  n := fun a x e n1 => by
    rw [upd_ne (ne_of_none e n0)]
    exact g.n a x e n1
theorem ds_retOwn {i : Nat} {x : Str} {p' : Pos} (h : PE X (.Name x p') (tVar i)) : PS X (.Return (some (.Name x p')) pos) (tS X.K cl W n (sRetOwn i)) := (ps_ret h).le fun D σ H q => by
  obtain ⟨Hm0, H0, Hm, ρ, x, q⟩ := q
  unfold sRetOwn at q
  split at q
  · rename_i ds e
    obtain ⟨p, xs, e1, n1, hp, ha⟩ := x.r.own e
    have n0 := x.o i _ p e rfl e1
    exact ⟨_, e1, q _ (upd Hm p (.lst xs)) H (frozen x.g n1 hp n0) (.lst (SqL.of upd_same) (ha.same (same_upd n1)))⟩
  · exact q.elim
theorem ds_if {sa sb : List Stmt} (hq : PT X c (tQ X.K cl W q)) (ha : PSs X sa (tS X.K cl W n S)) (hb : PSs X sb (tS X.K cl W n T)) : PS X (.If c sa sb pos) (tS X.K cl W n (sIf q S T)) := (ps_if hq ha hb).le fun D σ H q => by
  obtain ⟨Hm0, H0, Hm, ρ, x, q⟩ := q
  refine ⟨Hm, ρ, x.g.s, x.r, expr_in x q fun d v Hm1 H1 g1 hv q1 => ?_⟩
  subst hv
  cases v with
  | true => exact iteT ⟨Hm0, H0, Hm1, ρ, x.grow g1, q1⟩
  | false => exact iteF ⟨Hm0, H0, Hm1, ρ, x.grow g1, q1⟩
theorem ds_expr (h : PE X e (tF X.K cl W f)) (hs : swapsWith e none pos.line X.env = pure false := by rfl) : PS X (.Expr e pos) (tS X.K cl W n (sExpr f)) := (ps_expr h hs).le fun D σ H q => by
  obtain ⟨Hm0, H0, Hm, ρ, x, q⟩ := q
  exact ⟨Hm, ρ, x.g.s, x.r, expr_in x q fun d v Hm1 H1 g1 hv q1 => q1 σ Hm1 H1 (x.grow g1)⟩

/-- a slot set -/
theorem StOk.set {K : PySem.W.Frag} {Hm0 H0 Hm H : Hp} {σ : St} {ρ : Ev} {i : Nat} {v : V} {d : PyData} (x : StOk K n Hm0 H0 Hm H σ ρ) (hv : Dp K Hm v d) : StOk K n Hm0 H0 Hm H (σ.set i (some v)) (ρ.set i (.val d)) where
  g := x.g
  r := x.r.set hv
  o := fun j s p e hs hp => by
    by_cases hj : i = j
    · subst hj
      by_cases hl : i < ρ.length
      · rw [List.getElem?_set_self hl] at e
        cases e
        cases hs
      · rw [List.getElem?_eq_none (by simpa using hl)] at e
        cases e
    · rw [List.getElem?_set_ne hj] at e hp
      exact x.o j s p e hs hp
  len := by rw [List.length_set]; exact x.len
/-- x = e, by the reading of the whole statement -/
theorem ds_setT {te : TE} {i : Nat} (h : PS X st (tAsg te (gName i))) (he : ∀ σ H Q, tF X.K cl W f σ H Q → te σ H Q) : PS X st (tS X.K cl W n (sSet i f)) := h.le fun D σ H q => by
  obtain ⟨Hm0, H0, Hm, ρ, x, q⟩ := q
  refine he σ H _ ⟨Hm, ρ, x.g.s, x.r, expr_in x q fun d v Hm1 H1 g1 hv q1 => ?_⟩
  exact q1 _ Hm1 H1 ((x.grow g1).set hv)
theorem ds_set {i : Nat} {x : Str} {pos' : Pos} (hN : X.N.Nodup) (hi : X.N[i]? = some x) (hx : Loc X.env.scope x) (he : PE X e (tF X.K cl W f)) (hs : swapsWith e (some (.Name x pos')) pos.line X.env = pure false := by rfl)
    (hf : X.fn x = true ∨ X.env.scope.names.lookup x = some .local := by first | exact .inl rfl | exact .inr rfl | assumption) : PS X (.Assign [.Name x pos'] e pos) (tS X.K cl W n (sSet i f)) :=
  ds_setT (ps_set hN hi hx he hs hf) fun _ _ _ q => q

/-! targets -/
theorem wipe_comm {i : Nat} {v : Option V} : ∀ {vs : List Nat} {σ : St}, i ∉ vs → wipe (σ.set i v) vs = (wipe σ vs).set i v
  | [], _, _ => rfl
  | w :: vs, σ, h => by
    rw [List.mem_cons, not_or] at h
    show (wipe (σ.set i v) vs).set w none = ((wipe σ vs).set w none).set i v
    rw [wipe_comm h.2, List.set_comm _ _ h.1]
theorem wipe_mem {i : Nat} {v : Option V} : ∀ {vs : List Nat} {σ : St}, i ∈ vs → wipe (σ.set i v) vs = wipe σ vs
  | w :: vs, σ, h => by
    show (wipe (σ.set i v) vs).set w none = (wipe σ vs).set w none
    by_cases hi : i ∈ vs
    · rw [wipe_mem hi]
    · have e : i = w := (List.mem_cons.mp h).resolve_right hi
      subst e
      rw [wipe_comm hi, List.set_set]
theorem wipeR_comm {i : Nat} {v : Sl} : ∀ {vs : List Nat} {σ : Ev}, i ∉ vs → wipeR (σ.set i v) vs = (wipeR σ vs).set i v
  | [], _, _ => rfl
  | w :: vs, σ, h => by
    rw [List.mem_cons, not_or] at h
    show (wipeR (σ.set i v) vs).set w .no = ((wipeR σ vs).set w .no).set i v
    rw [wipeR_comm h.2, List.set_comm _ _ h.1]
theorem wipeR_mem {i : Nat} {v : Sl} : ∀ {vs : List Nat} {σ : Ev}, i ∈ vs → wipeR (σ.set i v) vs = wipeR σ vs
  | w :: vs, σ, h => by
    show (wipeR (σ.set i v) vs).set w .no = (wipeR σ vs).set w .no
    by_cases hi : i ∈ vs
    · rw [wipeR_mem hi]
    · have e : i = w := (List.mem_cons.mp h).resolve_right hi
      subst e
      rw [wipeR_comm hi, List.set_set]
theorem own_set {σ : St} {ρ : Ev} {i : Nat} {v : V} {d : PyData} (j : Nat) (s : Sl) (e : (ρ.set i (.val d))[j]? = some s) (hs : s.isOwn = true) : ρ[j]? = some s ∧ (σ.set i (some v))[j]? = σ[j]? := by
  by_cases hj : i = j
  · subst hj
    by_cases hl : i < ρ.length
    · rw [List.getElem?_set_self hl] at e
      cases e
      cases hs
    · rw [List.getElem?_eq_none (by simpa using hl)] at e
      cases e
  · rw [List.getElem?_set_ne hj] at e ⊢
    exact ⟨e, rfl⟩
theorem gok_name (K : PySem.W.Frag) (i : Nat) : GOk K (gName i) [i] (gs1 i) := fun Hm H σ ρ v d Q s r hv q =>
  q _ (r.set hv) (by rw [List.length_set]) (fun j s e hs => own_set j s e hs) (wipe_mem (by simp)) (wipeR_mem (by simp))
def gNames : List Nat → TGs
  | [] => gNil
  | i :: is => gCons (gName i) (gNames is)
theorem gNames_ok (K : PySem.W.Frag) (vs : List Nat) {Hm H : Hp} {Q : St → Hp → Prop} (s : Same Hm H) : ∀ (is : List Nat) (xs : List V) (ds : List PyData) (σ : St) (ρ : Ev), (∀ i ∈ is, i ∈ vs) → Rep K Hm H σ ρ → DpAll K Hm xs ds →
    (match gsN is ds ρ with
      | some ρ' => ∀ σ', Rep K Hm H σ' ρ' → ρ'.length = ρ.length → (∀ (i : Nat) s, ρ'[i]? = some s → s.isOwn = true → ρ[i]? = some s ∧ σ'[i]? = σ[i]?) → wipe σ' vs = wipe σ vs → wipeR ρ' vs = wipeR ρ vs → Q σ' H
      | none => False) → gNames is xs σ H Q
  | [], [], [], σ, ρ, _, r, .nil, q => ⟨rfl, q σ r rfl (fun _ _ e _ => ⟨e, rfl⟩) rfl rfl⟩
  | i :: is, x :: xs, d :: ds, σ, ρ, hm, r, .cons h t, q => by
    refine ⟨x, xs, rfl, ?_⟩
    refine gNames_ok K vs s is xs ds _ _ (fun j hj => hm j (List.mem_cons_of_mem _ hj)) (r.set h) t ?_
    have q' : (match gsN is ds (ρ.set i (.val d)) with
      | some ρ' => ∀ σ', Rep K Hm H σ' ρ' → ρ'.length = ρ.length → (∀ (i : Nat) s, ρ'[i]? = some s → s.isOwn = true → ρ[i]? = some s ∧ σ'[i]? = σ[i]?) → wipe σ' vs = wipe σ vs → wipeR ρ' vs = wipeR ρ vs → Q σ' H
      | none => False) := q
    cases e : gsN is ds (ρ.set i (.val d)) with
    | none => rw [e] at q'; exact q'
    | some ρ' =>
      rw [e] at q'
      intro σ' r' hl ho hw hw'
      refine q' σ' r' (by rw [hl, List.length_set]) (fun j s e1 hs => ?_) (by rw [hw, wipe_mem (hm i List.mem_cons_self)]) (by rw [hw', wipeR_mem (hm i List.mem_cons_self)])
      obtain ⟨e2, e3⟩ := ho j s e1 hs
      obtain ⟨e4, e5⟩ := own_set (σ := σ) (v := x) j s e2 hs
      exact ⟨e4, e3.trans e5⟩
  | _ :: _, [], [], _, _, _, _, .nil, q => q.elim
  | [], _ :: _, _ :: _, _, _, _, _, _, q => q.elim
theorem gsN_len : ∀ {is : List Nat} {ds : List PyData} {ρ ρ' : Ev}, gsN is ds ρ = some ρ' → is.length = ds.length
  | [], [], _, _, _ => rfl
  | i :: is, d :: ds, ρ, ρ', h => by
    have h' : gsN is ds (ρ.set i (.val d)) = some ρ' := h
    rw [List.length_cons, List.length_cons, gsN_len h']
  | [], _ :: _, _, _, h => by cases h
  | _ :: _, [], _, _, h => by cases h
theorem gok_tup (K : PySem.W.Frag) (n : Nat) (is : List Nat) (hn : is.length = n) : GOk K (gTup K n (gNames is)) is (gsT is) := fun Hm H σ ρ v d Q s r hv q => by
  unfold gsT at q
  split at q
  · rename_i d' ρ' e
    split at e
    · rename_i ds
      cases hv with
      | tup h ha =>
        refine ⟨_, _, rfl, SqT.same s h, ?_, gNames_ok K is s is _ ds σ ρ (fun _ h => h) r ha (by rw [e]; exact q)⟩
        rw [ha.length, ← hn]
        exact (gsN_len e).symm
    · cases e
  · exact q.elim
theorem ds_asg {tg : Expr} {g : TG} {vs : List Nat} {gs : PyData → Ev → Option Ev} (he : PE X e (tF X.K cl W f)) (hg : PG X tg g) (hok : GOk X.K g vs gs) (hs : swapsWithSole [tg] e pos.line X.env = pure false := by rfl) (hw : swappedStores [tg] e X.env = pure none := by rfl)
    (h1 : (assignEach [tg] X.env).map (·.2) = [assign tg X.env] := by rfl) : PS X (.Assign [tg] e pos) (tS X.K cl W n (sAsg gs f)) :=
  (ps_asg he hg hs hw h1).le fun D σ H q => by
  obtain ⟨Hm0, H0, Hm, ρ, x, q⟩ := q
  refine ⟨Hm, ρ, x.g.s, x.r, expr_in x q fun d v Hm1 H1 g1 hv q1 => ?_⟩
  have y := x.grow g1
  refine hok Hm1 H1 σ ρ v d _ g1.s y.r hv ?_
  cases e : gs d ρ with
  | none => rw [e] at q1; exact q1
  | some ρ' =>
    rw [e] at q1
    exact fun σ' r' hl ho _ _ => q1 σ' Hm1 H1 ⟨y.g, r', fun i s p e1 hs hp => by
      obtain ⟨e2, e3⟩ := ho i s e1 hs
      exact y.o i s p e2 hs (by rw [← e3]; exact hp), hl.trans y.len⟩

/-! ### lists that grow -/
theorem StOk.mut {K : PySem.W.Frag} {Hm0 H0 Hm H : Hp} {σ : St} {ρ : Ev} {i : Nat} {p : Addr} {s0 s1 : Sl} {o1 : HO} (x : StOk K n Hm0 H0 Hm H σ ρ) (e0 : ρ[i]? = some s0) (w0 : s0.isOwn = true) (ep : σ[i]? = some (some (.ref p))) (hn : Hm p = none) (w1 : s1.isOwn = true)
    (new : SlOk K Hm (upd H p o1) (some (some (V.ref p))) s1) : StOk K n Hm0 H0 Hm (upd H p o1) σ (ρ.set i s1) := by
  have n0 := x.o i s0 p e0 w0 ep
  have hl : i < ρ.length := (List.getElem?_eq_some_iff.mp e0).1
  refine ⟨⟨x.g.m, fun b y e => ?_, fun b y e => ?_, x.g.n⟩, ⟨by rw [List.length_set]; exact x.r.len, fun j s e => ?_, fun a b s t q hab ha hb hs ht ea => ?_⟩, fun j s q e hs hq => ?_, by rw [List.length_set]; exact x.len⟩
  · rw [upd_ne (ne_of_none e hn)]
    exact x.g.s b y e
  · rw [upd_ne (ne_of_none e n0)]
    exact x.g.h b y e
  · by_cases hj : i = j
    · subst hj
      rw [List.getElem?_set_self hl] at e
      cases e
      rw [ep]
      exact new
    · rw [List.getElem?_set_ne hj] at e
      have k := x.r.ok j s e
      have apart : ∀ q, s.isOwn = true → σ[j]? = some (some (V.ref q)) → q ≠ p := fun q hs hq z => x.r.sep i j s0 s p hj e0 e w0 hs ep (z ▸ hq)
      cases s with
      | no => trivial
      | val d => exact k
      | own ds =>
        obtain ⟨q, xs, h1, h2, h3, h4⟩ := k
        exact ⟨q, xs, h1, h2, by rw [upd_ne (apart q rfl h1)]; exact h3, h4⟩
      | dT kvs =>
        obtain ⟨q, h1, h2, h3⟩ := k
        exact ⟨q, h1, h2, by rw [upd_ne (apart q rfl h1)]; exact h3⟩
      | dI ks =>
        obtain ⟨q, h1, h2, h3⟩ := k
        exact ⟨q, h1, h2, by rw [upd_ne (apart q rfl h1)]; exact h3⟩
  · have g : ∀ {j : Nat} {s : Sl}, (ρ.set i s1)[j]? = some s → s.isOwn = true → ∃ s', ρ[j]? = some s' ∧ s'.isOwn = true := fun {j s} e hs => by
      by_cases hj : i = j
      · subst hj
        exact ⟨s0, e0, w0⟩
      · rw [List.getElem?_set_ne hj] at e
        exact ⟨s, e, hs⟩
    obtain ⟨s', a1, a2⟩ := g ha hs
    obtain ⟨t', b1, b2⟩ := g hb ht
    exact x.r.sep a b s' t' q hab a1 b1 a2 b2 ea
  · by_cases hj : i = j
    · subst hj
      exact x.o i s0 q e0 w0 hq
    · rw [List.getElem?_set_ne hj] at e
      exact x.o j s q e hs hq
theorem ds_append {i : Nat} {x : Str} {p' p2 p3 : Pos} (h : PE X (.Name x p') (tVar i)) (he : PE X e (tF X.K cl W f)) (hbase : attributeBase (.Name x p') "append" X.env (eval (.Name x p') X.env) = eval (.Name x p') X.env := by rfl)
    (hfew : ((backTo p3 (starEach [e] X.env)).all (fun x => !x.1) && (backToKw p3 (keywordEach [] X.env)).all (fun x => x.1.isSome)
      && decide ([e].length + ([] : List Keyword).length + (if ([] : List Keyword).isEmpty then 0 else 1) < 30)) = true := by rfl)
    (hline : (p2.endLine == p3.line) = true := by rfl) (hs : starEach [e] X.env = (false, eval e X.env) :: starEach [] X.env := by rfl)
    (hs2 : swapsWith (.Call (.Attribute (.Name x p') "append" p2) [e] [] p3) none pos.line X.env = pure false := by rfl) :
    PS X (.Expr (.Call (.Attribute (.Name x p') "append" p2) [e] [] p3) pos) (tS X.K cl W n (sAppend i f)) :=
  (ps_expr (pe_bm PySem.F.plainAttrs_list PySem.F.slot_list_append PySem.F.type_list_append mt_append h (pa_cons he pa_nil hs) hbase hfew hline hs rfl) hs2).le fun D σ H q => by
  obtain ⟨Hm0, H0, Hm, ρ, x, q⟩ := q
  unfold sAppend at q
  split at q
  · rename_i ds hr
    obtain ⟨p, xs, e1, n1, hp, ha⟩ := x.r.own hr
    refine ⟨_, e1, .inl ⟨rfl, _, SqL.of hp⟩, Hm, ρ, x.g.s, x.r, expr_in x q fun d v Hm1 H1 g1 hv q1 => ?_⟩
    split at q1
    · rename_i hz
      have y := x.grow g1
      obtain ⟨p', xs', e2, n2, hp2, ha2⟩ := y.r.own hr
      have ee : p' = p := by
        rw [e1] at e2
        cases e2
        rfl
      subst ee
      refine ⟨p', xs', v, rfl, rfl, hp2, by rw [line_eq, ha2.length]; exact hz, ?_⟩
      refine q1 σ Hm1 _ (y.mut hr rfl e2 n2 rfl ⟨p', xs' ++ [v], rfl, n2, upd_same, ha2.append (.cons hv .nil)⟩)
    · exact q1.elim
  · exact q.elim
end
end Bh
namespace Bh
open PySem PySem.Spec L2
open PyProof.Rows (envOfC)

/-! ### a def by what it computes -/
def dSp (K : PySem.W.Frag) (cl : Cl → Addr) (n : Nat) (F : List PyData → Rs PyData) : Sp := fun vs H Q E => vs.length = n ∧ ∃ Hm ds, Same Hm H ∧ DpAll K Hm vs ds ∧
  FinG (fun Hm _ v d => Dp K Hm v d) cl (fun c d _ H => E c d H) [] Hm H (F ds) Q
def outV : Out → Rs PyData
  | .rt d => .ok d
  | .nx _ => .ok .none
  | _ => .st
def runB (n ar : Nat) (S : Ev → Rs Out) (ds : List PyData) : Rs PyData := if ds.length = ar then (S (ds.map .val ++ List.replicate (n - ar) .no)).bind outV else .st

theorem DpAll.slots {K : PySem.W.Frag} {Hm H : Hp} {vs : List V} {ds : List PyData} (h : DpAll K Hm vs ds) (m : Nat) : Rep K Hm H (vs.map some ++ List.replicate m none) (ds.map .val ++ List.replicate m .no) where
  len := by rw [List.length_append, List.length_append, List.length_map, List.length_map, List.length_replicate, List.length_replicate, h.length]
  ok := fun i s e => by
    by_cases hi : i < ds.length
    · have e' := e
      rw [List.getElem?_append_left (by rw [List.length_map]; exact hi), List.getElem?_map] at e'
      obtain ⟨d, hd, rfl⟩ := Option.map_eq_some_iff.mp e'
      obtain ⟨v, hv, dv⟩ := h.get hd
      refine ⟨v, ?_, dv⟩
      rw [List.getElem?_append_left (by rw [List.length_map, h.length]; exact hi), List.getElem?_map, hv]
      rfl
    · rw [List.getElem?_append_right (by rw [List.length_map]; omega), List.getElem?_replicate] at e
      split at e
      · cases e
        trivial
      · cases e
  sep := fun i j s t p hij ei ej hs ht => by
    by_cases hi : i < ds.length
    · rw [List.getElem?_append_left (by rw [List.length_map]; exact hi), List.getElem?_map] at ei
      obtain ⟨d, hd, rfl⟩ := Option.map_eq_some_iff.mp ei
      cases hs
    · rw [List.getElem?_append_right (by rw [List.length_map]; omega), List.getElem?_replicate] at ei
      split at ei
      · cases ei
        cases hs
      · cases ei
theorem noOwn {ds : List PyData} {m i : Nat} {s : Sl} (e : (ds.map Sl.val ++ List.replicate m Sl.no)[i]? = some s) : s.isOwn = false := by
  by_cases hi : i < ds.length
  · rw [List.getElem?_append_left (by rw [List.length_map]; exact hi), List.getElem?_map] at e
    obtain ⟨d, hd, rfl⟩ := Option.map_eq_some_iff.mp e
    rfl
  · rw [List.getElem?_append_right (by rw [List.length_map]; omega), List.getElem?_replicate] at e
    split at e
    · cases e
      rfl
    · cases e

section
variable {P : Program} {w : World} {K : PySem.W.Frag} {mg : Str → Option Value} {base : Heap}
theorem fn_data {x qual : Str} {st : Stmt} {f : Addr} {fd : FuncData} {N ps : List Str} {k : Nat} {cl : Cl → Addr} {S : Ev → Rs Out} (F : Fun K x qual st f fd) (Sc : FnScope N ps (defScope st))
    (hb : ∀ (cdv : Value) (A : Around) (outer : List Env) (s : Shared) (H : Hp) (E : XK), Room k (A.deeper (envOfC qual (defScope st) s.heap.objs.size f cdv)) →
      PSs (cxOf (L2.CX P w) P w K mg base N qual (defScope st) f cdv A outer s H E) (defBody st) (tS K cl (fun c d _ H => E c d H) N.length S)) :
    FnOk P w K mg base (L2.CX P w) (k + 1) f fd ps (dSp K cl ps.length (runB N.length ps.length S)) := by
  refine F.okX Sc (fun vs H Q E h => h.1) (fun cdv A outer s H vs Q E hr h => ⟨_, hb cdv A outer s H E hr, ?_⟩)
  obtain ⟨hl, Hm, ds, hs, ha, q⟩ := h
  have hds : ds.length = ps.length := by rw [← ha.length]; exact hl
  have hps : ps.length ≤ N.length := by
    have := congrArg List.length Sc.pre
    rw [List.length_take] at this
    omega
  unfold runB at q
  rw [if_pos hds] at q
  refine ⟨Hm, H, Hm, ds.map .val ++ List.replicate (N.length - ps.length) .no, ⟨Grow.refl hs, ?_, fun i s p e hs' _ => ?_, ?_⟩, ?_⟩
  · have := DpAll.slots (H := H) ha (N.length - ps.length)
    unfold L2.start
    rw [hl]
    exact this
  · rw [noOwn e] at hs'
    cases hs'
  · rw [List.length_append, List.length_map, List.length_replicate]
    omega
  · cases e : S (ds.map .val ++ List.replicate (N.length - ps.length) .no) with
    | st => rw [e] at q; exact q
    | ex c => rw [e] at q; exact fun σ' ρ' Hm' H' y => q Hm' H' y.g
    | ok o =>
      rw [e] at q
      cases o with
      | nx ρ' => exact fun σ' Hm' H' y => q _ Hm' H' y.g .non
      | rt d => exact fun v Hm' H' y hv => q v Hm' H' y hv
      | bk ρ' => exact q.elim
      | ct ρ' => exact q.elim
end

section
variable {X : Cx} {cl : Cl → Addr} {W : WX} {a b c e tg : Expr} {es : List Expr} {st : Stmt} {body rest : List Stmt} {f g : Ev → Rs PyData} {fs : Ev → Rs (List PyData)} {S T : Ev → Rs Out} {q : Ev → Rs Bool} {pos : Pos} {n : Nat}

/-- clean arguments, so many -/
abbrev tAn (K : PySem.W.Frag) (cl : Cl → Addr) (W : WX) (n : Nat) (f : Ev → Rs (List PyData)) : TA := tG (fun Hm _ v d => DpAll K Hm v d ∧ v.length = n) K cl W f
theorem dn_nil : PA X [] (tAn X.K cl W 0 fA0) := pa_nil.le fun σ H Q q => by
  obtain ⟨Hm, ρ, s, rp, q⟩ := q
  exact q [] Hm H (Grow.refl s) ⟨.nil, rfl⟩
theorem dn_cons {m : Nat} (ha : PE X e (tF X.K cl W f)) (hr : PA X es (tAn X.K cl W m fs)) (hs : starEach (e :: es) X.env = (false, eval e X.env) :: starEach es X.env := by rfl) : PA X (e :: es) (tAn X.K cl W (m + 1) (fAc f fs)) := (pa_cons ha hr hs).le fun σ H Q q => by
  obtain ⟨Hm, ρ, s, rp, q⟩ := q
  refine ⟨Hm, ρ, s, rp, FinG.bind q fun d v Hm1 H1 g1 hv q1 => ?_⟩
  refine ⟨Hm1, ρ, g1.s, rp.grow g1, FinG.bind q1 fun ds vs Hm2 H2 g2 hvs q2 => ?_⟩
  exact q2 _ Hm2 H2 (Grow.refl g2.s) ⟨.cons (hv.same g2.m) hvs.1, by rw [List.length_cons, hvs.2]⟩
/-- f(e, ..) -/
theorem de_call {fa : Addr} {fd : FuncData} {ps : List Str} {F : List PyData → Rs PyData} {k m : Nat} {x : Str} {p : Pos} (G : FnOk X.prog X.w X.K X.mg X.base (L2.CX X.prog X.w) k fa fd ps (dSp X.K cl m F)) (hr : Room k X.A) (tk : Takes X W) (hg : Gl X x)
    (hm : X.mg x = some (.ref fa)) (hk : PySem.W.keepIn X.K (.ref fa) = true) (hb : Binds X.K fd ps []) (ha : PA X (e :: es) (tAn X.K cl W m fs)) (hdb : (x == ("__debug__" : Str)) = false := by decide)
    (he : starEach (e :: es) X.env = (false, eval e X.env) :: starEach es X.env := by rfl) (hpl : (backTo pos (starEach es X.env)).any (·.1) = false := by rfl) : PE X (.Call (.Name x p) (e :: es) [] pos) (tF X.K cl W (fCall F fs)) :=
  (pe_callS (E := WE W) G hr hg hm hk hb (fun σ => passAt tk σ) ha hdb he hpl).le fun σ H Q q => by
  obtain ⟨Hm, ρ, s, rp, q⟩ := q
  refine ⟨Hm, ρ, s, rp, FinG.bind q fun ds vs Hm1 H1 g1 hv q1 => ?_⟩
  refine ⟨hv.2, Hm1, ds, g1.s, hv.1, ?_⟩
  cases e : F ds with
  | st => rw [e] at q1; exact q1
  | ex c => rw [e] at q1; exact q1
  | ok d => rw [e] at q1; exact q1

/-! ### built-in functions -/
def CallD (X : Cx) (cl : Cl → Addr) (W : WX) (fv : Value) (o : List PyData → Rs PyData) : Prop := ∃ r : List V → Hp → VK → Prop, CallR X fv r ∧
  ∀ (Hm H : Hp) (xs : List V) (ds : List PyData) (σ : St) (Q : VK), Same Hm H → ShAll X.K Hm H xs ds → FinG (fun Hm _ v d => Dp X.K Hm v d) cl W σ Hm H (o ds) Q → r xs H Q
theorem de_callB {id : String} {x : Str} {p : Pos} {o : List PyData → Rs PyData} (hc : CallD X cl W (.builtin id) o) (hg : Gl X x) (hm : X.mg x = none) (hv : bootBuiltins x = some (.builtin id)) (ha : PA X (e :: es) (tAr X.K cl W fs)) (hn : x ≠ "__name__" := by decide) (hdb : (x == ("__debug__" : Str)) = false := by decide)
    (he : starEach (e :: es) X.env = (false, eval e X.env) :: starEach es X.env := by rfl) (hpl : (backTo pos (starEach es X.env)).any (·.1) = false := by rfl) : PE X (.Call (.Name x p) (e :: es) [] pos) (tF X.K cl W (fCall o fs)) := by
  obtain ⟨r, hr, ho⟩ := hc
  refine (pe_callB hr hg hm hv ha hn hdb he hpl).le fun σ H Q q => ?_
  obtain ⟨Hm, ρ, s, rp, q⟩ := q
  exact ⟨Hm, ρ, s, rp, FinG.bind q fun ds vs Hm1 H1 g1 hv q1 => ho Hm1 H1 vs ds σ Q g1.s hv q1⟩
theorem de_callTy {id : String} {x : Str} {p : Pos} {o : List PyData → Rs PyData} (hc : CallD X cl W (.type id) o) (hg : Gl X x) (hm : X.mg x = none) (hv : bootBuiltins x = some (.type id)) (ha : PA X (e :: es) (tAr X.K cl W fs)) (hn : x ≠ "__name__" := by decide) (hdb : (x == ("__debug__" : Str)) = false := by decide)
    (he : starEach (e :: es) X.env = (false, eval e X.env) :: starEach es X.env := by rfl) (hpl : (backTo pos (starEach es X.env)).any (·.1) = false := by rfl) : PE X (.Call (.Name x p) (e :: es) [] pos) (tF X.K cl W (fCall o fs)) := by
  obtain ⟨r, hr, ho⟩ := hc
  refine (pe_callTy hr hg hm hv ha hn hdb he hpl).le fun σ H Q q => ?_
  obtain ⟨Hm, ρ, s, rp, q⟩ := q
  exact ⟨Hm, ρ, s, rp, FinG.bind q fun ds vs Hm1 H1 g1 hv q1 => ho Hm1 H1 vs ds σ Q g1.s hv q1⟩
def dLen : List PyData → Rs PyData
  | [.list xs] => .ok (.int xs.length)
  | [.tuple xs] => .ok (.int xs.length)
  | [.str z] => if z.length ≤ 16777216 then .ok (.int z.length) else .st
  | _ => .st
def dList : List PyData → Rs PyData
  | [.list xs] => .ok (.list xs)
  | [.tuple xs] => .ok (.list xs)
  | _ => .st
def dTuple : List PyData → Rs PyData
  | [.list xs] => .ok (.tuple xs)
  | [.tuple xs] => .ok (.tuple xs)
  | _ => .st
def dInt1 : List PyData → Rs PyData
  | [.int i] => .ok (.int i)
  | [.bool b] => .ok (.int (if b then 1 else 0))
  | _ => .st
theorem ShAll.one {K : PySem.W.Frag} {Hm H : Hp} {xs : List V} {d : PyData} (h : ShAll K Hm H xs [d]) : ∃ v, xs = [v] ∧ Sh K Hm H v d := by
  cases h with
  | cons a t => cases t; exact ⟨_, rfl, a⟩
theorem cl_len : CallD X cl W (.builtin "len") dLen := ⟨_, call_len_seq.or call_len_str, fun Hm H xs ds σ Q s h q => by
  unfold dLen at q
  split at q
  · obtain ⟨v, rfl, hv⟩ := h.one
    obtain ⟨p, ys, rfl, h1, h2⟩ := hv.list s
    exact .inl ⟨p, ys, rfl, .inl h1, by rw [h2.length]; exact fin0 s q (.int _)⟩
  · obtain ⟨v, rfl, hv⟩ := h.one
    obtain ⟨p, ys, rfl, h1, h2⟩ := hv.tuple s
    exact .inl ⟨p, ys, rfl, .inr h1, by rw [h2.length]; exact fin0 s q (.int _)⟩
  · obtain ⟨v, rfl, hv⟩ := h.one
    split at q
    · rename_i hz
      rw [hv.str]
      exact .inr ⟨_, rfl, by rw [line_eq]; exact hz, fin0 s q (.int _)⟩
    · exact q.elim
  · exact q.elim⟩
theorem cl_list : CallD X cl W (.type "list") dList := ⟨_, call_list_of, fun Hm H xs ds σ Q s h q => by
  unfold dList at q
  split at q
  · obtain ⟨v, rfl, hv⟩ := h.one
    obtain ⟨p, ys, rfl, h1, h2⟩ := hv.list s
    exact ⟨p, ys, rfl, .inl h1, finL s q h2⟩
  · obtain ⟨v, rfl, hv⟩ := h.one
    obtain ⟨p, ys, rfl, h1, h2⟩ := hv.tuple s
    exact ⟨p, ys, rfl, .inr h1, finL s q h2⟩
  · exact q.elim⟩
theorem cl_tuple : CallD X cl W (.type "tuple") dTuple := ⟨_, call_tuple_of, fun Hm H xs ds σ Q s h q => by
  unfold dTuple at q
  split at q
  · obtain ⟨v, rfl, hv⟩ := h.one
    obtain ⟨p, ys, rfl, h1, h2⟩ := hv.list s
    exact ⟨p, ys, rfl, .inl ⟨h1, finT s q h2⟩⟩
  · obtain ⟨v, rfl, hv⟩ := h.one
    have hv' := hv
    obtain ⟨p, ys, rfl, h1, h2⟩ := hv.tuple s
    refine ⟨p, ys, rfl, .inr ⟨h1, ?_⟩⟩
    rcases hv' with z | ⟨_, _, _, _, _, _, z⟩
    · exact fin0 s q z
    · cases z
  · exact q.elim⟩
theorem cl_int : CallD X cl W (.type "int") dInt1 := ⟨_, call_int1, fun Hm H xs ds σ Q s h q => by
  unfold dInt1 at q
  split at q
  · obtain ⟨v, rfl, hv⟩ := h.one
    rw [hv.int]
    exact .inl ⟨_, rfl, fin0 s q (.int _)⟩
  · obtain ⟨v, rfl, hv⟩ := h.one
    rw [hv.bool]
    exact .inr ⟨_, rfl, fin0 s q (.int _)⟩
  · exact q.elim⟩

/-! isinstance(e, T), T a built-in class -/
def tyName : PyData → Option String
  | .none => some "NoneType"
  | .bool _ => some "bool"
  | .int _ => some "int"
  | .str _ => some "str"
  | .list _ => some "list"
  | .tuple _ => some "tuple"
  | .dict _ => none
def isaT (T : String) (d : PyData) : Rs PyData := match d with
  | .none => .ok (.bool false)
  | .bool _ => .ok (.bool (T == "bool" || T == "int"))
  | .int _ => .ok (.bool (T == "int"))
  | .str _ => .ok (.bool (T == "str"))
  | .list _ => .ok (.bool (T == "list"))
  | .tuple _ => .ok (.bool (T == "tuple"))
  | .dict _ => .st
theorem tyOf_dp {K : PySem.W.Frag} {Hm H : Hp} {v : V} {d : PyData} {t : String} (s : Same Hm H) (h : Sh K Hm H v d) (e : tyName d = some t) : TyX K H v (.type t) := by
  cases d with
  | none => cases e; rw [h.none]; exact .base .non
  | bool b => cases e; rw [h.bool]; exact .base (.bl b)
  | int b => cases e; rw [h.int]; exact .base (.int b)
  | str b => cases e; rw [h.str]; exact .base (.str b)
  | list xs =>
    cases e
    obtain ⟨p, ys, rfl, h1, h2⟩ := h.list s
    rcases h1 with h1 | ⟨o, its, nn, hk, hc, _⟩
    · rcases h1 with h1 | ⟨o, h1⟩
      · exact .base (.lst h1)
      · exact .base (.frz h1)
    · exact .kList hk hc
  | tuple xs =>
    cases e
    obtain ⟨p, ys, rfl, h1, h2⟩ := h.tuple s
    rcases h1 with h1 | ⟨o, its, nn, hk, hc, _⟩
    · rcases h1 with h1 | ⟨o, h1⟩
      · exact .base (.tup h1)
      · exact .fTuple h1
    · exact .kTuple hk hc
  | dict _ => cases e
theorem de_isi {T : Str} {Tn : String} {p p2 : Pos} (hT : PE X (.Name T p2) (tC (.ty Tn))) (hk : ∀ d t b, tyName d = some t → isaT Tn d = .ok (.bool b) → kitB t Tn = some b) (hg : Gl X "isinstance") (hm : X.mg "isinstance" = none)
    (ha : PE X e (tH X.K cl W f)) (he : starEach [e, .Name T p2] X.env = (false, eval e X.env) :: starEach [.Name T p2] X.env := by rfl) (he2 : starEach [.Name T p2] X.env = (false, eval (.Name T p2) X.env) :: starEach [] X.env := by rfl)
    (hpl : (backTo pos (starEach [.Name T p2] X.env)).any (·.1) = false := by rfl) :
    PE X (.Call (.Name "isinstance" p) [e, .Name T p2] [] pos) (tF X.K cl W (f1 (isaT Tn) f)) :=
  (pe_callB call_isi hg hm (by decide +kernel) (pa_cons ha (pa_cons hT pa_nil he2) he) (by decide) (by decide) he hpl).le fun σ H Q q => by
  obtain ⟨Hm, ρ, s, rp, q⟩ := q
  refine ⟨Hm, ρ, s, rp, FinG.bind q fun d v Hm1 H1 g1 hv q1 => ?_⟩
  cases e1 : tyName d with
  | none =>
    cases d <;> first | exact False.elim q1 | cases e1
  | some t =>
    obtain ⟨b, e2⟩ : ∃ b, isaT Tn d = .ok (.bool b) := by
      cases d <;> first | exact ⟨_, rfl⟩ | cases e1
    rw [e2] at q1
    exact ⟨v, .ty Tn, .type t, .type Tn, b, rfl, .ty Tn, tyOf_dp g1.s hv e1, kit_ty (hk d t b e1 e2), fin0 g1.s q1 (.bl b)⟩
end
end Bh
set_option autoImplicit false
namespace Bh
open PySem PySem.Spec L2
open PyProof.Rows (envOfC)

/-! ### what is walked -/
def ItOk (K : PySem.W.Frag) (Hm : Hp) (J : It) (ds : List PyData) : Prop := ∀ (Hm' H' : Hp) (i : Nat), Same Hm Hm' → Same Hm' H' →
  (∀ d, ds[i]? = some d → J.go i H' ∧ ∀ x H'', J.yld i H' x H'' → ∃ Hm'', Grow Hm' H' Hm'' H'' ∧ Dp K Hm'' x d) ∧ (ds[i]? = none → J.stop i H')
abbrev tI (K : PySem.W.Frag) (cl : Cl → Addr) (W : WX) (f : Ev → Rs (List PyData)) : TI := tG (fun Hm _ J ds => ItOk K Hm J ds) K cl W f
theorem PI_le {X : Cx} {tg e : Expr} {t t' : TI} (h : PI X tg e t) (w : ∀ σ H Q, t' σ H Q → t σ H Q) : PI X tg e t' := ⟨fun pins s σ H Q I q => h.run pins s σ H Q I (w σ H Q q)⟩
theorem PI_or {X : Cx} {tg e : Expr} {t t' : TI} (h : PI X tg e t) (h' : PI X tg e t') : PI X tg e (fun σ H Q => t σ H Q ∨ t' σ H Q) := ⟨fun pins s σ H Q I q => q.elim (h.run pins s σ H Q I) (h'.run pins s σ H Q I)⟩

def seqD : PyData → Rs (List PyData)
  | .list xs => .ok xs
  | .tuple xs => .ok xs
  | .str z => .ok (z.cps.toList.map fun c => .str ⟨#[c]⟩)
  | _ => .st
def iSeq (f : Ev → Rs PyData) : Ev → Rs (List PyData) := fun ρ => (f ρ).bind seqD
def rngL (lo hi : Int) : List PyData := (List.range (hi - lo).toNat).map fun (i : Nat) => .int (lo + i)
def rng1D : List PyData → Rs (List PyData)
  | [.int j] => if decide (-4611686018427387904 ≤ j) && decide (j < 4611686018427387904) then .ok (rngL 0 j) else .st
  | _ => .st
def rng2D : List PyData → Rs (List PyData)
  | [.int i, .int j] => if decide (-4611686018427387904 ≤ i) && decide (i < 4611686018427387904) && decide (-4611686018427387904 ≤ j) && decide (j < 4611686018427387904) then .ok (rngL i j) else .st
  | _ => .st
def iRng1 (fs : Ev → Rs (List PyData)) : Ev → Rs (List PyData) := fun ρ => (fs ρ).bind rng1D
def iRng2 (fs : Ev → Rs (List PyData)) : Ev → Rs (List PyData) := fun ρ => (fs ρ).bind rng2D
def enumL : Nat → List PyData → List PyData
  | _, [] => []
  | i, d :: ds => .tuple [.int i, d] :: enumL (i + 1) ds
def enum1D : List PyData → Rs (List PyData)
  | [.list xs] => .ok (enumL 0 xs)
  | [.tuple xs] => .ok (enumL 0 xs)
  | _ => .st
def iEnu (fs : Ev → Rs (List PyData)) : Ev → Rs (List PyData) := fun ρ => (fs ρ).bind enum1D

theorem enumL_get : ∀ (ds : List PyData) (k i : Nat), (enumL k ds)[i]? = ds[i]?.map fun d => .tuple [.int ((k + i : Nat) : Int), d]
  | [], _, _ => by simp [enumL]
  | d :: ds, k, 0 => by simp [enumL]
  | d :: ds, k, i + 1 => by
    show (enumL (k + 1) ds)[i]? = _
    rw [enumL_get ds (k + 1) i, List.getElem?_cons_succ, show k + 1 + i = k + (i + 1) by omega]

theorem itl_ok {K : PySem.W.Frag} {Hm : Hp} {a : Addr} {xs : List V} {ds : List PyData} (h : ∀ H', Same Hm H' → SqL K H' a xs) (ha : DpAll K Hm xs ds) : ItOk K Hm (Itl K a) ds := fun Hm' H' i s1 s2 => by
  have hs := h H' (s1.trans s2)
  refine ⟨fun d e => ?_, fun e => ⟨xs, hs, ?_⟩⟩
  · obtain ⟨v, hv, dv⟩ := ha.get e
    refine ⟨⟨xs, v, hs, hv⟩, fun x H'' y => ?_⟩
    obtain ⟨rfl, y⟩ := y
    have : v = x := Option.some.inj (hv.symm.trans (y xs hs))
    subst this
    exact ⟨Hm', Grow.refl s2, dv.same s1⟩
  · rw [ha.length]
    exact List.getElem?_eq_none_iff.mp e
theorem itt_ok {K : PySem.W.Frag} {Hm : Hp} {a : Addr} {xs : List V} {ds : List PyData} (h : ∀ H', Same Hm H' → SqT K H' a xs) (ha : DpAll K Hm xs ds) : ItOk K Hm (Itt K a) ds := fun Hm' H' i s1 s2 => by
  have hs := h H' (s1.trans s2)
  refine ⟨fun d e => ?_, fun e => ⟨xs, hs, ?_⟩⟩
  · obtain ⟨v, hv, dv⟩ := ha.get e
    refine ⟨⟨xs, v, hs, hv⟩, fun x H'' y => ?_⟩
    obtain ⟨rfl, y⟩ := y
    have : v = x := Option.some.inj (hv.symm.trans (y xs hs))
    subst this
    exact ⟨Hm', Grow.refl s2, dv.same s1⟩
  · rw [ha.length]
    exact List.getElem?_eq_none_iff.mp e
theorem ite_ok {K : PySem.W.Frag} {Hm : Hp} {a : Addr} {xs : List V} {ds : List PyData} (h : ∀ H', Same Hm H' → SqL K H' a xs) (ha : DpAll K Hm xs ds) : ItOk K Hm (Ite K a) (enumL 0 ds) := fun Hm' H' i s1 s2 => by
  have hs := h H' (s1.trans s2)
  refine ⟨fun d e => ?_, fun e => ⟨xs, hs, ?_⟩⟩
  · rw [enumL_get] at e
    obtain ⟨d', e', rfl⟩ := Option.map_eq_some_iff.mp e
    obtain ⟨v, hv, dv⟩ := ha.get e'
    refine ⟨⟨xs, v, hs, hv⟩, fun x H'' y => ?_⟩
    obtain ⟨T, z, rfl, hT, rfl, y⟩ := y
    have : v = z := Option.some.inj (hv.symm.trans (y xs hs))
    subst this
    have g := Grow.laid (o := .tup [.int (i : Nat), v]) s2 hT
    refine ⟨_, g, .tup (SqT.of upd_same) (.cons ?_ (.cons ((dv.same s1).same g.m) .nil))⟩
    rw [Nat.zero_add]
    exact .int _
  · rw [enumL_get] at e
    rw [ha.length]
    exact List.getElem?_eq_none_iff.mp (Option.map_eq_none_iff.mp e)
/-- the tuple at a, each item in a new pair -/
def IteT (K : PySem.W.Frag) (a : Addr) : It :=
  ⟨fun i H => ∃ (xs : List V) (x : V), SqT K H a xs ∧ xs[i]? = some x, fun i H v H' => ∃ T x, v = .ref T ∧ H T = none ∧ H' = upd H T (.tup [.int (i : Nat), x]) ∧ ∀ xs, SqT K H a xs → xs[i]? = some x, fun i H => ∃ xs : List V, SqT K H a xs ∧ xs.length ≤ i⟩
theorem iteT_ok {K : PySem.W.Frag} {Hm : Hp} {a : Addr} {xs : List V} {ds : List PyData} (h : ∀ H', Same Hm H' → SqT K H' a xs) (ha : DpAll K Hm xs ds) : ItOk K Hm (IteT K a) (enumL 0 ds) := fun Hm' H' i s1 s2 => by
  have hs := h H' (s1.trans s2)
  refine ⟨fun d e => ?_, fun e => ⟨xs, hs, ?_⟩⟩
  · rw [enumL_get] at e
    obtain ⟨d', e', rfl⟩ := Option.map_eq_some_iff.mp e
    obtain ⟨v, hv, dv⟩ := ha.get e'
    refine ⟨⟨xs, v, hs, hv⟩, fun x H'' y => ?_⟩
    obtain ⟨T, z, rfl, hT, rfl, y⟩ := y
    have : v = z := Option.some.inj (hv.symm.trans (y xs hs))
    subst this
    have g := Grow.laid (o := .tup [.int (i : Nat), v]) s2 hT
    refine ⟨_, g, .tup (SqT.of upd_same) (.cons ?_ (.cons ((dv.same s1).same g.m) .nil))⟩
    rw [Nat.zero_add]
    exact .int _
  · rw [enumL_get] at e
    rw [ha.length]
    exact List.getElem?_eq_none_iff.mp (Option.map_eq_none_iff.mp e)
theorem itr_ok {K : PySem.W.Frag} {Hm : Hp} {lo hi : Int} : ItOk K Hm (Itr lo (hi - lo).toNat) (rngL lo hi) := fun Hm' H' i s1 s2 => by
  unfold rngL
  refine ⟨fun d e => ?_, fun e => ?_⟩
  · rw [List.getElem?_map] at e
    obtain ⟨j, e', rfl⟩ := Option.map_eq_some_iff.mp e
    have hi' : i < (hi - lo).toNat := by
      have := (List.getElem?_eq_some_iff.mp e').1
      rw [List.length_range] at this
      exact this
    rw [List.getElem?_range hi'] at e'
    cases e'
    refine ⟨hi', fun x H'' y => ?_⟩
    obtain ⟨rfl, rfl⟩ := y
    exact ⟨Hm', Grow.refl s2, .int _⟩
  · rw [List.getElem?_map, Option.map_eq_none_iff, List.getElem?_eq_none_iff, List.length_range] at e
    exact e
theorem its_ok {K : PySem.W.Frag} {Hm : Hp} {z : Str} : ItOk K Hm (Its z) (z.cps.toList.map fun c => .str ⟨#[c]⟩) := fun Hm' H' i s1 s2 => by
  refine ⟨fun d e => ?_, fun e => ?_⟩
  · rw [List.getElem?_map] at e
    obtain ⟨c, e', rfl⟩ := Option.map_eq_some_iff.mp e
    have hi := (List.getElem?_eq_some_iff.mp e').1
    rw [Array.getElem?_toList] at e'
    refine ⟨by rw [Array.length_toList] at hi; exact hi, fun x H'' y => ?_⟩
    obtain ⟨rfl, c', ec, rfl⟩ := y
    rw [ec] at e'
    cases e'
    exact ⟨Hm', Grow.refl s2, .str _⟩
  · rw [List.getElem?_map, Option.map_eq_none_iff, List.getElem?_eq_none_iff, Array.length_toList] at e
    exact e

section
variable {X : Cx} {cl : Cl → Addr} {W : WX} {a b c e tg : Expr} {es : List Expr} {st : Stmt} {body rest : List Stmt} {f g : Ev → Rs PyData} {fs : Ev → Rs (List PyData)} {S T : Ev → Rs Out} {q : Ev → Rs Bool} {pos : Pos} {n : Nat}

theorem di_seq (h : PE X e (tF X.K cl W f)) : PI X tg e (tI X.K cl W (iSeq f)) := PI_le (PI_or (pi_list h) (PI_or (pi_tup h) (pi_str h))) fun σ H Q q => by
  obtain ⟨Hm, ρ, s, rp, q⟩ := q
  unfold iSeq at q
  cases e1 : f ρ with
  | st => rw [e1] at q; exact q.elim
  | ex c => exact .inl ⟨Hm, ρ, s, rp, by rw [e1] at q ⊢; exact q⟩
  | ok d =>
    rw [e1] at q
    cases d with
    | list ds =>
      refine .inl ⟨Hm, ρ, s, rp, ?_⟩
      rw [e1]
      intro v Hm1 H1 g1 hv
      cases hv with
      | lst h1 ha => exact ⟨_, rfl, ⟨_, Same.seq g1.s h1⟩, q _ Hm1 H1 g1 (itl_ok (fun H' s' => Same.seq s' h1) ha)⟩
    | tuple ds =>
      refine .inr (.inl ⟨Hm, ρ, s, rp, ?_⟩)
      rw [e1]
      intro v Hm1 H1 g1 hv
      cases hv with
      | tup h1 ha => exact ⟨_, rfl, ⟨_, SqT.same g1.s h1⟩, q _ Hm1 H1 g1 (itt_ok (fun H' s' => SqT.same s' h1) ha)⟩
    | str z =>
      refine .inr (.inr ⟨Hm, ρ, s, rp, ?_⟩)
      rw [e1]
      intro v Hm1 H1 g1 hv
      cases hv
      exact ⟨z, rfl, q _ Hm1 H1 g1 its_ok⟩
    | none => exact q.elim
    | bool _ => exact q.elim
    | int _ => exact q.elim
    | dict _ => exact q.elim
theorem ShAll.two {K : PySem.W.Frag} {Hm H : Hp} {xs : List V} {d d' : PyData} (h : ShAll K Hm H xs [d, d']) : ∃ v v', xs = [v, v'] ∧ Sh K Hm H v d ∧ Sh K Hm H v' d' := by
  cases h with
  | cons a t =>
    obtain ⟨v', rfl, b⟩ := t.one
    exact ⟨_, v', rfl, a, b⟩
theorem di_rng1 {p : Pos} (hg : Gl X "range") (hm : X.mg "range" = none) (ha : PA X [a] (tAr X.K cl W fs)) (hs : starEach [a] X.env = [(false, eval a X.env)] := by rfl) : PI X tg (.Call (.Name "range" p) [a] [] pos) (tI X.K cl W (iRng1 fs)) := PI_le (pi_range1 hg hm ha hs) fun σ H Q q => by
  obtain ⟨Hm, ρ, s, rp, q⟩ := q
  refine ⟨Hm, ρ, s, rp, FinG.bind q fun ds vs Hm1 H1 g1 hv q1 => ?_⟩
  unfold rng1D at q1
  split at q1
  · rename_i j
    split at q1
    · rename_i z
      rw [Bool.and_eq_true, decide_eq_true_eq, decide_eq_true_eq] at z
      obtain ⟨v, rfl, hv1⟩ := hv.one
      rw [hv1.int]
      refine ⟨j, rfl, z.1, z.2, q1 _ Hm1 H1 (Grow.refl g1.s) ?_⟩
      have := itr_ok (K := X.K) (Hm := Hm1) (lo := 0) (hi := j)
      rw [Int.sub_zero] at this
      exact this
    · exact q1.elim
  · exact q1.elim
theorem di_rng2 {p : Pos} (hg : Gl X "range") (hm : X.mg "range" = none) (ha : PA X [a, b] (tAr X.K cl W fs)) (hs : starEach [a, b] X.env = [(false, eval a X.env), (false, eval b X.env)] := by rfl) (hs2 : starEach [b] X.env = [(false, eval b X.env)] := by rfl) : PI X tg (.Call (.Name "range" p) [a, b] [] pos) (tI X.K cl W (iRng2 fs)) := PI_le (pi_range2 hg hm ha hs hs2) fun σ H Q q => by
  obtain ⟨Hm, ρ, s, rp, q⟩ := q
  refine ⟨Hm, ρ, s, rp, FinG.bind q fun ds vs Hm1 H1 g1 hv q1 => ?_⟩
  unfold rng2D at q1
  split at q1
  · rename_i i j
    split at q1
    · rename_i z
      rw [Bool.and_eq_true, Bool.and_eq_true, Bool.and_eq_true, decide_eq_true_eq, decide_eq_true_eq, decide_eq_true_eq, decide_eq_true_eq] at z
      obtain ⟨v, v', rfl, hv1, hv2⟩ := hv.two
      rw [hv1.int, hv2.int]
      exact ⟨i, j, rfl, ⟨z.1.1.1, z.1.1.2, z.1.2, z.2⟩, q1 _ Hm1 H1 (Grow.refl g1.s) itr_ok⟩
    · exact q1.elim
  · exact q1.elim

/-! ### for -/
def forL (gs : PyData → Ev → Option Ev) (S : Ev → Rs Out) : List PyData → Ev → Rs Out
  | [], ρ => .ok (.nx ρ)
  | d :: ds, ρ => match gs d ρ with
    | none => .st
    | some ρ1 => match S ρ1 with
      | .st => .st
      | .ex c => .ex c
      | .ok (.nx ρ2) => forL gs S ds ρ2
      | .ok (.ct ρ2) => forL gs S ds ρ2
      | .ok (.bk ρ2) => .ok (.nx ρ2)
      | .ok (.rt d) => .ok (.rt d)
def sFor (it : Ev → Rs (List PyData)) (gs : PyData → Ev → Option Ev) (S : Ev → Rs Out) : Ev → Rs Out := fun ρ => (it ρ).bind fun ds => forL gs S ds ρ
/-- all that is immutable now, taken as the start -/
def joinH (Hm H0 : Hp) : Hp := fun a => match Hm a with
  | some o => some o
  | none => H0 a
theorem join_none {Hm H0 : Hp} {a : Addr} (h1 : Hm a = none) (h2 : H0 a = none) : joinH Hm H0 a = none := by
  unfold joinH
  rw [h1]
  exact h2
theorem StOk.rebase {K : PySem.W.Frag} {Hm0 H0 Hm H : Hp} {σ : St} {ρ : Ev} (x : StOk K n Hm0 H0 Hm H σ ρ) : StOk K n Hm (joinH Hm H0) Hm H σ ρ := by
  refine ⟨⟨Same.refl _, x.g.s, fun a o e => ?_, fun _ _ _ h => h⟩, x.r, fun i s p e hs hp => ?_, x.len⟩
  · unfold joinH at e
    split at e
    · rename_i o' e'
      cases e
      exact x.g.s a _ e'
    · exact x.g.h a o e
  · refine join_none ?_ (x.o i s p e hs hp)
    have k := x.r.ok i s e
    cases s with
    | no => cases hs
    | val d => cases hs
    | own ds => obtain ⟨q, xs, h1, h2, _⟩ := k; rw [hp] at h1; cases h1; exact h2
    | dT kvs => obtain ⟨q, h1, h2, _⟩ := k; rw [hp] at h1; cases h1; exact h2
    | dI ks => obtain ⟨q, h1, h2, _⟩ := k; rw [hp] at h1; cases h1; exact h2
theorem Grow.unbase {Hm0 H0 Hm H Hm4 H4 : Hp} (x : Grow Hm0 H0 Hm H) (y : Grow Hm (joinH Hm H0) Hm4 H4) : Grow Hm0 H0 Hm4 H4 := by
  refine ⟨x.m.trans y.m, y.s, fun a o e => ?_, fun a o e h => ?_⟩
  · refine y.h a o ?_
    unfold joinH
    cases q : Hm a with
    | none => exact e
    | some o' =>
      have h1 := x.s a o' q
      have h2 := x.h a o e
      rw [h1] at h2
      exact h2
  · have k := x.n a o e h
    refine y.n a o ?_ k
    unfold joinH
    rw [k]
    exact e
theorem StOk.unbase {K : PySem.W.Frag} {Hm0 H0 Hm H Hm4 H4 : Hp} {σ : St} {ρ : Ev} (x : Grow Hm0 H0 Hm H) (y : StOk K n Hm (joinH Hm H0) Hm4 H4 σ ρ) : StOk K n Hm0 H0 Hm4 H4 σ ρ := by
  refine ⟨x.unbase y.g, y.r, fun i s p e hs hp => ?_, y.len⟩
  have k := y.o i s p e hs hp
  unfold joinH at k
  split at k
  · cases k
  · exact k
theorem ds_for {g : TG} {vs : List Nat} {gs : PyData → Ev → Option Ev} (hp : PassesOwn (model X.prog X.w) X.A X.env X.xe) (hc : X.calm = true) (hi : PI X tg e (tI X.K cl W fs)) (hg : PG X tg g) (hok : GOk X.K g vs gs) (hb : PSs X body (tS X.K cl W n S))
    (hs : ∀ x, foldedSetIterable e X.env x = pure x := by intro _; rfl) : PS X (.For tg e body [] pos) (tS X.K cl W n (sFor fs gs S)) := (ps_for hp hc hi hg hb hs).le fun D σ H q => by
  obtain ⟨Hm0, H0, Hm, ρ, x, q⟩ := q
  refine ⟨Hm, ρ, x.g.s, x.r, expr_in x q fun ds J Hm1 H1 g1 hJ q1 => ?_⟩
  refine ⟨fun i m σ' H' => ∃ Hm' ρ', StOk X.K n Hm0 H0 Hm' H' σ' ρ' ∧ Same Hm1 Hm' ∧ m = ds.length - i ∧ FinS X.K cl W n Hm0 H0 (forL gs S (ds.drop i) ρ') D, ⟨_, Hm1, ρ, x.grow g1, Same.refl _, rfl, q1⟩, fun i m σ' H' w => ?_⟩
  obtain ⟨Hm', ρ', y, sm, rfl, q2⟩ := w
  obtain ⟨hgo, hstop⟩ := hJ Hm' H' i sm y.g.s
  cases hd : ds[i]? with
  | none =>
    have hl : ds.length ≤ i := List.getElem?_eq_none_iff.mp hd
    rw [List.drop_eq_nil_of_le hl] at q2
    exact .inl ⟨hstop hd, q2 σ' Hm' H' y⟩
  | some d =>
    obtain ⟨hlt, hget⟩ := List.getElem?_eq_some_iff.mp hd
    obtain ⟨go, hy⟩ := hgo d hd
    have hdrop : ds.drop i = d :: ds.drop (i + 1) := by
      rw [List.drop_eq_getElem_cons hlt, hget]
    rw [hdrop] at q2
    refine .inr ⟨go, fun σ2 H2 => ∃ Hm2 ρ2, StOk X.K n Hm0 H0 Hm2 H2 σ2 ρ2 ∧ Same Hm1 Hm2 ∧ FinS X.K cl W n Hm0 H0 (forL gs S (ds.drop (i + 1)) ρ2) D, fun σ2 H2 z => ?_, fun v H2 yl => ?_⟩
    · obtain ⟨Hm2, ρ2, z1, z2, z3⟩ := z
      exact ⟨ds.length - (i + 1), by omega, Hm2, ρ2, z1, z2, rfl, z3⟩
    · obtain ⟨Hm2, g2, dv⟩ := hy v H2 yl
      have y2 := y.grow g2
      refine hok Hm2 H2 σ' ρ' v d _ g2.s y2.r dv ?_
      unfold forL at q2
      cases e1 : gs d ρ' with
      | none => rw [e1] at q2; exact q2.elim
      | some ρ1 =>
        rw [e1] at q2
        intro σ1 r1 hl ho _ _
        have y3 : StOk X.K n Hm0 H0 Hm2 H2 σ1 ρ1 := ⟨y2.g, r1, fun i s p e1 hs hp => by
          obtain ⟨e2, e3⟩ := ho i s e1 hs
          exact y2.o i s p e2 hs (by rw [← e3]; exact hp), hl.trans y2.len⟩
        refine ⟨Hm2, joinH Hm2 H0, Hm2, ρ1, y3.rebase, ?_⟩
        have q3 : FinS X.K cl W n Hm0 H0 (match S ρ1 with
          | .st => .st
          | .ex c => .ex c
          | .ok (.nx ρ2) => forL gs S (ds.drop (i + 1)) ρ2
          | .ok (.ct ρ2) => forL gs S (ds.drop (i + 1)) ρ2
          | .ok (.bk ρ2) => .ok (.nx ρ2)
          | .ok (.rt d) => .ok (.rt d)) D := q2
        cases e2 : S ρ1 with
        | st => rw [e2] at q3; exact q3.elim
        | ex c => rw [e2] at q3; exact fun σ4 ρ4 Hm4 H4 y4 => q3 σ4 ρ4 Hm4 H4 (y4.unbase y3.g)
        | ok o =>
          rw [e2] at q3
          cases o with
          | nx ρ2 => exact fun σ4 Hm4 H4 y4 => ⟨Hm4, ρ2, y4.unbase y3.g, (sm.trans g2.m).trans y4.g.m, q3⟩
          | ct ρ2 => exact fun σ4 Hm4 H4 y4 => ⟨Hm4, ρ2, y4.unbase y3.g, (sm.trans g2.m).trans y4.g.m, q3⟩
          | bk ρ2 => exact fun σ4 Hm4 H4 y4 => q3 σ4 Hm4 H4 (y4.unbase y3.g)
          | rt d' => exact fun v4 Hm4 H4 y4 => q3 v4 Hm4 H4 (y3.g.unbase y4)
end
end Bh
namespace Bh
open PySem PySem.Spec L2
open PyProof.Rows (envOfC)

abbrev W0 : WX := fun _ _ _ _ => False
/-! ### a new list of one's own -/
def FinN (K : PySem.W.Frag) (cl : Cl → Addr) (W : WX) (σ : St) (Hm H : Hp) (r : Rs (List PyData)) (Q : VK) : Prop :=
  match r with
  | .st => False
  | .ex c => ∀ Hm' H', Grow Hm H Hm' H' → W (.ref (cl c)) none σ H'
  | .ok ds => ∀ p xs Hm' H', Grow Hm H Hm' H' → H p = none → Hm' p = none → H' p = some (.lst xs) → DpAll K Hm' xs ds → Q (.ref p) H'
def tN (K : PySem.W.Frag) (cl : Cl → Addr) (W : WX) (f : Ev → Rs (List PyData)) : TE := fun σ H Q => ∃ Hm ρ, Same Hm H ∧ Rep K Hm H σ ρ ∧ FinN K cl W σ Hm H (f ρ) Q
def fNew (f : Ev → Rs (List PyData)) : Ev → Rs PyData := fun ρ => (f ρ).bind fun ds => .ok (.list ds)
theorem tF_new {K : PySem.W.Frag} {cl : Cl → Addr} {W : WX} {f : Ev → Rs (List PyData)} {σ : St} {H : Hp} {Q : VK} (h : tF K cl W (fNew f) σ H Q) : tN K cl W f σ H Q := by
  obtain ⟨Hm, ρ, s, rp, q⟩ := h
  refine ⟨Hm, ρ, s, rp, ?_⟩
  unfold fNew at q
  cases e : f ρ with
  | st => rw [e] at q; exact q
  | ex c => rw [e] at q; exact q
  | ok ds =>
    rw [e] at q
    intro p xs Hm' H' g n0 n1 hp ha
    exact q _ (upd Hm' p (.lst xs)) H' (frozen g n1 hp n0) (.lst (SqL.of upd_same) (ha.same (same_upd n1)))

def lcL (gs : PyData → Ev → Option Ev) (q : Ev → Rs Bool) (f : Ev → Rs PyData) (ρ0 : Ev) : List PyData → Rs (List PyData)
  | [] => .ok []
  | d :: ds => match gs d ρ0 with
    | none => .st
    | some ρ1 => match q ρ1 with
      | .ok true => match f ρ1 with
        | .ok y => (lcL gs q f ρ0 ds).bind fun ys => .ok (y :: ys)
        | _ => .st
      | .ok false => lcL gs q f ρ0 ds
      | _ => .st
def fLcN (it : Ev → Rs (List PyData)) (gs : PyData → Ev → Option Ev) (q : Ev → Rs Bool) (f : Ev → Rs PyData) (vs : List Nat) : Ev → Rs (List PyData) := fun ρ => (it ρ).bind fun ds => if ds.length ≤ 16777216 then lcL gs q f (wipeR ρ vs) ds else .st
abbrev fLc (it : Ev → Rs (List PyData)) (gs : PyData → Ev → Option Ev) (q : Ev → Rs Bool) (f : Ev → Rs PyData) (vs : List Nat) : Ev → Rs PyData := fNew (fLcN it gs q f vs)
def qYes : Ev → Rs Bool := fun _ => .ok true

theorem Rep.len_of {K : PySem.W.Frag} {Hm H : Hp} {σ : St} {ρ : Ev} (h : Rep K Hm H σ ρ) : ρ.length = σ.length := h.len

theorem lcL_noex {gs : PyData → Ev → Option Ev} {q : Ev → Rs Bool} {f : Ev → Rs PyData} {ρ0 : Ev} {c : Cl} : ∀ {ds : List PyData}, lcL gs q f ρ0 ds ≠ .ex c
  | [], h => by cases h
  | d :: ds, h => by
    unfold lcL at h
    split at h
    · cases h
    · split at h
      · split at h
        · cases e3 : lcL gs q f ρ0 ds with
          | st => rw [e3] at h; cases h
          | ok z => rw [e3] at h; cases h
          | ex c' =>
            exact lcL_noex e3
        · cases h
      · exact lcL_noex h
      · cases h
theorem wipe_self {v : Nat} : ∀ {us : List Nat} {τ : St}, v ∈ us → (wipe τ us).set v none = wipe τ us
  | w :: us, τ, h => by
    show ((wipe τ us).set w none).set v none = (wipe τ us).set w none
    by_cases hv : v = w
    · subst hv
      rw [List.set_set]
    · rw [List.set_comm _ _ (Ne.symm hv), wipe_self ((List.mem_cons.mp h).resolve_left hv)]
theorem wipe_twice (τ : St) (us : List Nat) : ∀ ws : List Nat, (∀ w ∈ ws, w ∈ us) → wipe (wipe τ us) ws = wipe τ us
  | [], _ => rfl
  | w :: ws, h => by
    show (wipe (wipe τ us) ws).set w none = wipe τ us
    rw [wipe_twice τ us ws fun x hx => h x (List.mem_cons_of_mem _ hx), wipe_self (h w List.mem_cons_self)]
section
variable {cl : Cl → Addr} {W : WX}
theorem lc_read {K : PySem.W.Frag} {it : Ev → Rs (List PyData)} {g : TG} {vs : List Nat} {gs : PyData → Ev → Option Ev} {q : Ev → Rs Bool} {f : Ev → Rs PyData} (hok : GOk K g vs gs) {σ : St} {H : Hp} {Q : VK} (h : tN K cl W (fLcN it gs q f vs) σ H Q) :
    tLc (tI K cl W it) g (tQ K cl W0 q) (tF K cl W0 f) vs σ H Q := by
  obtain ⟨Hm, ρ, s, rp, h⟩ := h
  refine ⟨Hm, ρ, s, rp, ?_⟩
  unfold fLcN at h
  cases e : it ρ with
  | st => rw [e] at h; exact h
  | ex c => rw [e] at h; exact h
  | ok ds =>
    rw [e] at h
    simp only [Rs.bind_ok] at h
    split at h
    · rename_i hlen
      intro J Hm1 H1 g1 hJ D hD
      cases el : lcL gs q f (wipeR ρ vs) ds with
      | st => rw [el] at h; exact h.elim
      | ex c =>
        exact (lcL_noex el).elim
      | ok ys =>
        rw [el] at h
        have rp1 := (rp.grow g1).wipe vs
        refine ⟨fun i m H2 => ∃ Hm2 acc done rest, m = ds.length - i ∧ Grow Hm1 H1 Hm2 H2 ∧ Hm2 D = none ∧ H2 D = some (.lst acc) ∧ DpAll K Hm2 acc done ∧ done.length ≤ i ∧ lcL gs q f (wipeR ρ vs) (ds.drop i) = .ok rest ∧ done ++ rest = ys, ⟨ds.length, Hm1, [], [], ys, by simp, Grow.laidOwn g1.s hD, g1.s.free hD, upd_same, .nil, Nat.le_refl _, el, rfl⟩, fun i m H2 w => ?_⟩
        obtain ⟨Hm2, acc, done, rest, rfl, g2, n2, hD2, ha, hdn, er, ey⟩ := w
        obtain ⟨hgo, hstop⟩ := hJ Hm2 H2 i g2.m g2.s
        cases hd : ds[i]? with
        | none =>
          have hl : ds.length ≤ i := List.getElem?_eq_none_iff.mp hd
          rw [List.drop_eq_nil_of_le hl] at er
          cases er
          rw [List.append_nil] at ey
          subst ey
          exact .inl ⟨hstop hd, h D acc Hm2 H2 (g1.trans g2) (g1.h.free hD) n2 hD2 ha⟩
        | some d =>
          obtain ⟨hlt, hget⟩ := List.getElem?_eq_some_iff.mp hd
          obtain ⟨go, hy⟩ := hgo d hd
          have hdrop : ds.drop i = d :: ds.drop (i + 1) := by
            rw [List.drop_eq_getElem_cons hlt, hget]
          rw [hdrop] at er
          refine .inr ⟨go, fun H3 => ∃ Hm3 acc done rest, Grow Hm1 H1 Hm3 H3 ∧ Hm3 D = none ∧ H3 D = some (.lst acc) ∧ DpAll K Hm3 acc done ∧ done.length ≤ i + 1 ∧ lcL gs q f (wipeR ρ vs) (ds.drop (i + 1)) = .ok rest ∧ done ++ rest = ys, fun H3 z => ?_, fun v H3 yl => ?_⟩
          · obtain ⟨Hm3, acc, done, rest, z1, z2, z3, z4, z5, z6, z7⟩ := z
            exact ⟨ds.length - (i + 1), by omega, Hm3, acc, done, rest, rfl, z1, z2, z3, z4, z5, z6, z7⟩
          · obtain ⟨Hm3, g3, dv⟩ := hy v H3 yl
            refine hok Hm3 H3 (wipe σ vs) (wipeR ρ vs) v d _ g3.s ((rp1.grow g2).grow g3) dv ?_
            unfold lcL at er
            cases e1 : gs d (wipeR ρ vs) with
            | none => rw [e1] at er; cases er
            | some ρ1 =>
              rw [e1] at er
              simp only at er
              intro σ1 r1 _ _ hw _
              refine ⟨by rw [hw, wipe_twice σ vs vs fun _ h => h], Hm3, ρ1, g3.s, r1, ?_⟩
              cases e2 : q ρ1 with
              | st => rw [e2] at er; cases er
              | ex c => rw [e2] at er; cases er
              | ok b =>
                rw [e2] at er
                intro b' Hm4 H4 g4 eb
                subst eb
                have gg := (g2.trans g3).trans g4
                have nD : Hm4 D = none := g4.n D _ (g3.h D _ hD2) (g3.n D _ hD2 n2)
                have hD4 : H4 D = some (.lst acc) := g4.h D _ (g3.h D _ hD2)
                have ha4 := (ha.same g3.m).same g4.m
                cases b' with
                | false =>
                  refine iteF ⟨Hm4, acc, done, rest, gg, nD, hD4, ha4, by omega, er, ey⟩
                | true =>
                  refine iteT ⟨Hm4, ρ1, g4.s, r1.grow g4, ?_⟩
                  cases e3 : f ρ1 with
                  | st => rw [e3] at er; cases er
                  | ex c => rw [e3] at er; cases er
                  | ok y =>
                    rw [e3] at er
                    simp only at er
                    cases e4 : lcL gs q f (wipeR ρ vs) (ds.drop (i + 1)) with
                    | st => rw [e4] at er; cases er
                    | ex c => rw [e4] at er; cases er
                    | ok rest' =>
                      rw [e4] at er
                      cases er
                      intro vy Hm5 H5 g5 hvy
                      have nD5 : Hm5 D = none := g5.n D _ hD4 nD
                      have hD5 : H5 D = some (.lst acc) := g5.h D _ hD4
                      refine ⟨acc, hD5, ?_, Hm5, acc ++ [vy], done ++ [y], rest', ?_, nD5, upd_same, (ha4.same g5.m).append (.cons hvy .nil), by rw [List.length_append]; simp; omega, rfl, by rw [List.append_assoc]; exact ey⟩
                      · rw [ha.length, line_eq]
                        omega
                      · have g6 := gg.trans g5
                        refine ⟨g6.m, fun b o e => ?_, fun b o e => ?_, g6.n⟩
                        · rw [upd_ne (ne_of_none e nD5)]
                          exact g6.s b o e
                        · rw [upd_ne (ne_of_none e hD)]
                          exact g6.h b o e
    · exact h.elim
end
section
variable {X : Cx} {cl : Cl → Addr} {W : WX} {elt tg iter e : Expr} {ifs : List Expr} {es : List Expr} {scope : Scope} {own : List (Str × Nat)} {pos : Pos} {g : TG} {gs : PyData → Ev → Option Ev} {q : Ev → Rs Bool} {f : Ev → Rs PyData} {it fs : Ev → Rs (List PyData)} {n : Nat} {st : Stmt}
theorem dts_nil : PTs X [] (tQ X.K cl W0 qYes) := ⟨fun pins s σ H Q I q => pts_nil.run pins s σ H Q I (by
  obtain ⟨Hm, ρ, s, rp, q⟩ := q
  exact q true Hm H (Grow.refl s) rfl)⟩
theorem dts_one {c : Expr} (h : PT X c (tQ X.K cl W0 q)) : PTs X [c] (tQ X.K cl W0 q) := pts_one h
/-- [elt for tg in iter if ..] -/
theorem de_lc (hc : X.calm = true) (hN : X.N.Nodup) (hi : PI X tg iter (tI X.K cl W it)) (ok : BlkOk X.N X.env.scope scope own)
    (hok : GOk X.K g (own.map (·.2)) gs)
    (hg : ∀ (s : Shared) (H : Hp) (C : Addr) (cs : List (Str × Addr)) (fp : List Addr), PG (X.blk s H scope (compEnvC scope cs C X.env) fp) tg g) (ht : ∀ (s : Shared) (H : Hp) (C : Addr) (cs : List (Str × Addr)) (fp : List Addr), PTs (X.blk s H scope (compEnvC scope cs C X.env) fp) ifs (tQ X.K cl W0 q))
    (he : ∀ (s : Shared) (H : Hp) (C : Addr) (cs : List (Str × Addr)) (fp : List Addr), PE (X.blk s H scope (compEnvC scope cs C X.env) fp) elt (tF X.K cl W0 f)) (hs : ∀ x, foldedSetIterable iter X.env x = pure x := by intro _; rfl) :
    PE X (.ListComp elt [⟨tg, iter, ifs, 0⟩] scope pos) (tN X.K cl W (fLcN it gs q f (own.map (·.2)))) :=
  (pe_lc hc hN hi ok hg ht he hs).le fun σ H Q h => lc_read hok h
/-- a new list as a value -/
theorem nw (h : PE X e (tN X.K cl W fs)) : PE X e (tF X.K cl W (fNew fs)) := h.le fun σ H Q q => tF_new q
/-- y = [..], y a name of the def's own, on one line -/
theorem ds_setLc {i : Nat} {y : Str} {py spos : Pos} (hc : X.calm = true) (hN : X.N.Nodup) (hy : X.N[i]? = some y) (hyl : X.env.scope.names.lookup y = some .local)
    (hsw : swapsWith (.ListComp elt [⟨tg, iter, ifs, 0⟩] scope pos) (some (.Name y py)) spos.line X.env = pure true) (hi : PI X tg iter (tI X.K cl W it)) (ok : BlkOk X.N X.env.scope scope own)
    (hok : GOk X.K g (own.map (·.2)) gs)
    (hg : ∀ (s : Shared) (H : Hp) (C : Addr) (cs : List (Str × Addr)) (fp : List Addr), PG (X.blk s H scope (compEnvC scope cs C X.env) fp) tg g) (ht : ∀ (s : Shared) (H : Hp) (C : Addr) (cs : List (Str × Addr)) (fp : List Addr), PTs (X.blk s H scope (compEnvC scope cs C X.env) fp) ifs (tQ X.K cl W0 q))
    (he : ∀ (s : Shared) (H : Hp) (C : Addr) (cs : List (Str × Addr)) (fp : List Addr), PE (X.blk s H scope (compEnvC scope cs C X.env) fp) elt (tF X.K cl W0 f)) (hs : ∀ x, foldedSetIterable iter X.env x = pure x := by intro _; rfl) :
    PS X (.Assign [.Name y py] (.ListComp elt [⟨tg, iter, ifs, 0⟩] scope pos) spos) (tS X.K cl W n (sSet i (fLc it gs q f (own.map (·.2))))) :=
  ds_setT (ps_setLc hc hN hy hyl hsw hi ok hg ht he hs) fun σ H Q h => lc_read hok (tF_new h)
theorem StOk.setOwn {K : PySem.W.Frag} {Hm0 H0 Hm H : Hp} {σ : St} {ρ : Ev} {i : Nat} {p : Addr} {xs : List V} {ds : List PyData} (x : StOk K n Hm0 H0 Hm H σ ρ) (n0 : H0 p = none) (nw : ∀ (j : Nat) s, ρ[j]? = some s → s.isOwn = true → σ[j]? ≠ some (some (.ref p))) (n1 : Hm p = none) (hp : H p = some (.lst xs)) (ha : DpAll K Hm xs ds) :
    StOk K n Hm0 H0 Hm H (σ.set i (some (.ref p))) (ρ.set i (.own ds)) := by
  have len := x.r.len
  refine ⟨x.g, ⟨by rw [List.length_set, List.length_set]; exact len, fun j s e => ?_, fun a b s t q hab ea eb hs ht ep => ?_⟩, fun j s q e hs hq => ?_, by rw [List.length_set]; exact x.len⟩
  · by_cases hj : i = j
    · subst hj
      by_cases hl : i < ρ.length
      · rw [List.getElem?_set_self hl] at e
        cases e
        exact ⟨p, xs, by rw [List.getElem?_set_self (by rw [← len]; exact hl)], n1, hp, ha⟩
      · rw [List.getElem?_eq_none (by simpa using hl)] at e
        cases e
    · rw [List.getElem?_set_ne hj] at e ⊢
      exact x.r.ok j s e
  · by_cases h1 : i = a
    · subst h1
      have h2 : i ≠ b := hab
      rw [List.getElem?_set_ne h2] at eb ⊢
      have hl : i < ρ.length := by
        have := (List.getElem?_eq_some_iff.mp ea).1
        rw [List.length_set] at this
        exact this
      rw [List.getElem?_set_self (by rw [← len]; exact hl)] at ep
      cases ep
      exact nw b t eb ht
    · rw [List.getElem?_set_ne h1] at ea ep
      by_cases h2 : i = b
      · subst h2
        have hl : i < ρ.length := by
          have := (List.getElem?_eq_some_iff.mp eb).1
          rw [List.length_set] at this
          exact this
        rw [List.getElem?_set_self (by rw [← len]; exact hl)]
        intro z
        cases z
        exact nw a s ea hs ep
      · rw [List.getElem?_set_ne h2] at eb ⊢
        exact x.r.sep a b s t q hab ea eb hs ht ep
  · by_cases hj : i = j
    · subst hj
      have hl : i < ρ.length := by
        have := (List.getElem?_eq_some_iff.mp e).1
        rw [List.length_set] at this
        exact this
      rw [List.getElem?_set_self (by rw [← len]; exact hl)] at hq
      cases hq
      exact n0
    · rw [List.getElem?_set_ne hj] at e hq
      exact x.o j s q e hs hq
/-- x = a new list, which may grow -/
theorem ds_setOwnT {te : TE} {i : Nat} (h : PS X st (tAsg te (gName i))) (he : ∀ σ H Q, tN X.K cl W fs σ H Q → te σ H Q) : PS X st (tS X.K cl W n (sSetOwn i fs)) := h.le fun D σ H q => by
  obtain ⟨Hm0, H0, Hm, ρ, x, q⟩ := q
  refine he σ H _ ⟨Hm, ρ, x.g.s, x.r, ?_⟩
  unfold sSetOwn at q
  cases e : fs ρ with
  | st => rw [e] at q; exact q
  | ex c => rw [e] at q; exact fun Hm' H' g => q σ ρ Hm' H' (x.grow g)
  | ok ds =>
    rw [e] at q
    intro p xs Hm' H' g n0 n1 hp ha
    have own0 : ∀ (j : Nat) s, ρ[j]? = some s → s.isOwn = true → σ[j]? ≠ some (some (.ref p)) := fun j s ej hs ep => by
      have k := x.r.ok j s ej
      cases s with
      | no => cases hs
      | val d => cases hs
      | own ds => obtain ⟨q, xs, h1, h2, h3, _⟩ := k; rw [ep] at h1; cases h1; rw [n0] at h3; cases h3
      | dT kvs => obtain ⟨q, h1, h2, h3⟩ := k; rw [ep] at h1; cases h1; rw [n0] at h3; cases h3
      | dI ks => obtain ⟨q, h1, h2, h3⟩ := k; rw [ep] at h1; cases h1; rw [n0] at h3; cases h3
    exact q _ Hm' H' ((x.grow g).setOwn (x.g.h.free n0) own0 n1 hp ha)
theorem tN_lst {K : PySem.W.Frag} {σ : St} {H : Hp} {Q : VK} (h : tN K cl W fs σ H Q) (hz : ∀ ρ ds, fs ρ = .ok ds → ds.length ≤ 16777216) : tLst (tAc K cl W fs) σ H Q := by
  obtain ⟨Hm, ρ, s, rp, q⟩ := h
  refine ⟨Hm, ρ, s, rp, ?_⟩
  cases e : fs ρ with
  | st => rw [e] at q; exact q
  | ex c => rw [e] at q; exact q
  | ok ds =>
    rw [e] at q
    intro vs Hm1 H1 g1 hv
    refine ⟨by rw [line_eq, hv.length]; exact hz ρ ds e, fun p hp => ?_⟩
    exact q p vs Hm1 _ (g1.trans (Grow.laidOwn g1.s hp)) (g1.h.free hp) (g1.s.free hp) upd_same hv
/-- x = [a, b, ..], which may grow -/
theorem ds_setOwn {i : Nat} {x : Str} {pos' p2 : Pos} (hN : X.N.Nodup) (hi : X.N[i]? = some x) (hx : Loc X.env.scope x) (he : PA X es (tAc X.K cl W fs)) (hz : ∀ ρ ds, fs ρ = .ok ds → ds.length ≤ 16777216) (hs : swapsWith (.List es p2) (some (.Name x pos')) pos.line X.env = pure false := by rfl)
    (hf : X.fn x = true ∨ X.env.scope.names.lookup x = some .local := by first | exact .inl rfl | exact .inr rfl | assumption) : PS X (.Assign [.Name x pos'] (.List es p2) pos) (tS X.K cl W n (sSetOwn i fs)) :=
  ds_setOwnT (ps_set hN hi hx (pe_lst he) hs hf) fun _ _ _ q => tN_lst q hz
theorem ds_setOwnLc {i : Nat} {y : Str} {py spos : Pos} (hc : X.calm = true) (hN : X.N.Nodup) (hy : X.N[i]? = some y) (hyl : X.env.scope.names.lookup y = some .local)
    (hsw : swapsWith (.ListComp elt [⟨tg, iter, ifs, 0⟩] scope pos) (some (.Name y py)) spos.line X.env = pure true) (hi : PI X tg iter (tI X.K cl W it)) (ok : BlkOk X.N X.env.scope scope own)
    (hok : GOk X.K g (own.map (·.2)) gs)
    (hg : ∀ (s : Shared) (H : Hp) (C : Addr) (cs : List (Str × Addr)) (fp : List Addr), PG (X.blk s H scope (compEnvC scope cs C X.env) fp) tg g) (ht : ∀ (s : Shared) (H : Hp) (C : Addr) (cs : List (Str × Addr)) (fp : List Addr), PTs (X.blk s H scope (compEnvC scope cs C X.env) fp) ifs (tQ X.K cl W0 q))
    (he : ∀ (s : Shared) (H : Hp) (C : Addr) (cs : List (Str × Addr)) (fp : List Addr), PE (X.blk s H scope (compEnvC scope cs C X.env) fp) elt (tF X.K cl W0 f)) (hs : ∀ x, foldedSetIterable iter X.env x = pure x := by intro _; rfl) :
    PS X (.Assign [.Name y py] (.ListComp elt [⟨tg, iter, ifs, 0⟩] scope pos) spos) (tS X.K cl W n (sSetOwn i (fLcN it gs q f (own.map (·.2))))) :=
  ds_setOwnT (ps_setLc hc hN hy hyl hsw hi ok hg ht he hs) fun σ H Q h => lc_read hok h
end
end Bh
namespace Bh
open PySem PySem.Spec L2
open PyProof.Rows (envOfC)

section
variable {X : Cx} {cl : Cl → Addr} {W : WX} {a b c e : Expr} {es : List Expr} {f g : Ev → Rs PyData} {fs : Ev → Rs (List PyData)} {pos : Pos} {n : Nat} {lo hi : Option Expr} {fl fh : Ev → Rs (Option Int)}

/-! ### items, slices -/
theorem atI_dp {K : PySem.W.Frag} {H : Hp} {vs : List V} {ds : List PyData} {i : Int} {d : PyData} (h : DpAll K H vs ds) (e : atI ds i = some d) : ∃ v, atI vs i = some v ∧ Dp K H v d := by
  unfold atI at e ⊢
  rw [h.length]
  cases k : ixN ds.length i with
  | none => rw [k] at e; cases e
  | some j =>
    rw [k] at e
    exact h.get e
theorem de_ix (ha : PE X a (tH X.K cl W f)) (hb : PE X b (tH X.K cl W g)) (hs : PlainIx b := by exact fun _ _ => rfl) : PE X (.Subscript a b pos) (tF X.K cl W (f2 dIx f g)) :=
  de_bin rfl (pe_ix ix_seq ha hb hs) fun Hm H x y d d' σ Q s hx hy q => by
  unfold dIx at q
  split at q
  · obtain ⟨p, xs, rfl, h1, h2⟩ := hx.list s
    unfold atD at q
    split at q
    · rename_i d' e
      obtain ⟨v, hv, dv⟩ := atI_dp h2 e
      exact .inl ⟨p, xs, _, v, rfl, hy.int, h1, hv, fin0 s q dv⟩
    · exact q.elim
  · obtain ⟨p, xs, rfl, h1, h2⟩ := hx.tuple s
    unfold atD at q
    split at q
    · rename_i d' e
      obtain ⟨v, hv, dv⟩ := atI_dp h2 e
      exact .inr (.inl ⟨p, xs, _, v, rfl, hy.int, h1, hv, fin0 s q dv⟩)
    · exact q.elim
  · split at q
    · rename_i hz
      split at q
      · rename_i c' e
        exact .inr (.inr ⟨_, _, _, hx.str, hy.int, by rw [line_eq]; exact hz, e, fin0 s q (.str _)⟩)
      · exact q.elim
    · exact q.elim
  · exact q.elim
abbrev tO (K : PySem.W.Frag) (cl : Cl → Addr) (W : WX) (f : Ev → Rs (Option Int)) : TO := tG (fun _ _ b c => b = c) K cl W f
theorem PO_le {X : Cx} {e : Option Expr} {t t' : TO} (h : PO X e t) (w : ∀ σ H Q, t' σ H Q → t σ H Q) : PO X e t' := ⟨fun pins s σ H Q I q => h.run pins s σ H Q I (w σ H Q q)⟩
theorem do_none : PO X none (tO X.K cl W oNone) := PO_le po_none fun σ H Q q => by
  obtain ⟨Hm, ρ, s, rp, q⟩ := q
  exact q none Hm H (Grow.refl s) rfl
theorem do_some (h : PE X e (tH X.K cl W f)) : PO X (some e) (tO X.K cl W (oSome f)) := PO_le (po_some h) fun σ H Q q => by
  obtain ⟨Hm, ρ, s, rp, q⟩ := q
  refine ⟨Hm, ρ, s, rp, FinG.bind q fun d v Hm1 H1 g1 hv q1 => ?_⟩
  unfold intD at q1
  split at q1
  · exact ⟨_, hv.int, q1 _ Hm1 H1 (Grow.refl g1.s) rfl⟩
  · exact q1.elim
theorem cut_dp {K : PySem.W.Frag} {H : Hp} {vs : List V} {ds : List PyData} (l h : Option Int) (k : DpAll K H vs ds) : DpAll K H (cutV vs l h) (cutD ds l h) := by
  unfold cutV cutD
  rw [k.length]
  exact (k.drop _).take _
theorem de_sl {p2 : Pos} (he : PE X e (tH X.K cl W f)) (hl : PO X lo (tO X.K cl W fl)) (hu : PO X hi (tO X.K cl W fh)) : PE X (.Subscript e (.Slice lo hi none p2) pos) (tF X.K cl W (fSl f fl fh)) :=
  (pe_slice (sl_list.or (sl_tupA.or sl_str)) he hl hu).le fun σ H Q q => by
  obtain ⟨Hm, ρ, s, rp, q⟩ := q
  refine ⟨Hm, ρ, s, rp, FinG.bind q fun d v Hm1 H1 g1 hv q1 => ?_⟩
  refine ⟨Hm1, ρ, g1.s, rp.grow g1, FinG.bind q1 fun l vl Hm2 H2 g2 hvl q2 => ?_⟩
  refine ⟨Hm2, ρ, g2.s, (rp.grow g1).grow g2, FinG.bind q2 fun h vh Hm3 H3 g3 hvh q3 => ?_⟩
  subst hvl hvh
  have hv3 := (hv.grow g2).grow g3
  unfold dSl at q3
  split at q3
  · obtain ⟨p, xs, rfl, h1, h2⟩ := hv3.list g3.s
    exact .inl ⟨p, xs, rfl, h1, finL g3.s q3 (cut_dp _ _ h2)⟩
  · have hv' := hv3
    obtain ⟨p, xs, rfl, h1, h2⟩ := hv3.tuple g3.s
    refine .inr (.inl ⟨p, xs, rfl, h1, fun hw => ?_, fun _ => finT g3.s q3 (cut_dp _ _ h2)⟩)
    rcases hv' with z | ⟨_, _, _, _, _, _, z⟩
    · refine fin0 g3.s q3 ?_
      cases z with
      | @tup _ xs' _ h3 h4 =>
        refine .tup h3 ?_
        rename_i ds
        have : cutD ds vl vh = ds := by
          unfold cutD
          rw [← h2.length, hw.1, hw.2, List.drop_zero, h2.length, Nat.sub_zero, List.take_length]
        rw [this]
        exact h4
    · cases z
  · split at q3
    · rename_i hz
      exact .inr (.inr ⟨_, hv3.str, by rw [line_eq]; exact hz, fin0 g3.s q3 (.str _)⟩)
    · exact q3.elim
  · exact q3.elim

/-! ### in -/
def inS (neg : Bool) (x y : PyData) : Rs PyData := match y with
  | .list ys => if SeqAt.shaped x && SeqAt.shaped (.list ys) then .ok (.bool (if neg then !(ys.any fun y => PyData.eqv y x) else ys.any fun y => PyData.eqv y x)) else .st
  | .tuple ys => if SeqAt.shaped x && SeqAt.shaped (.tuple ys) then .ok (.bool (if neg then !(ys.any fun y => PyData.eqv y x) else ys.any fun y => PyData.eqv y x)) else .st
  | .str z => match x with
    | .str ⟨⟨[c]⟩⟩ => .ok (.bool (if neg then !decide (c ∈ z.cps.toList) else decide (c ∈ z.cps.toList)))
    | _ => .st
  | _ => .st
def rInD (K : PySem.W.Frag) (neg : Bool) : R2 := fun x y H Q => ∃ d ys e, Dp K H x d ∧ Dp K H y e ∧ (e = .list ys ∨ e = .tuple ys) ∧ SeqAt.shaped d = true ∧ SeqAt.shaped e = true ∧ Q (.bl (if neg then !(ys.any fun y => PyData.eqv y d) else ys.any fun y => PyData.eqv y d)) H
theorem op_inD (hu : X.A.units + 65 < cLine) : OpR X (compareOp .In) (rInD X.K false) := by
  intro pins s σ H x y v u Q I rx ry h
  obtain ⟨d, ys, e, hd, he, z, sd, se, q⟩ := h
  obtain ⟨as, r1⟩ := Dp.reads I d x v hd rx
  obtain ⟨bs, r2⟩ := Dp.reads I e y u he ry
  rcases z with rfl | rfl
  · exact SeqAt.in_list_reads r2 r1 (SeqAt.canLay_of_shaped se) (SeqAt.canLay_of_shaped sd) (PyProof.Rows.room_in_shaped sd hu) ⟨.bl _, H, I, rfl, q⟩
  · exact SeqAt.in_tuple_reads r2 r1 (SeqAt.canLay_of_shaped se) (SeqAt.canLay_of_shaped sd) (PyProof.Rows.room_in_shaped sd hu) ⟨.bl _, H, I, rfl, q⟩
theorem op_notInD (hu : X.A.units + 65 < cLine) : OpR X (compareOp .NotIn) (rInD X.K true) := by
  intro pins s σ H x y v u Q I rx ry h
  obtain ⟨d, ys, e, hd, he, z, sd, se, q⟩ := h
  obtain ⟨as, r1⟩ := Dp.reads I d x v hd rx
  obtain ⟨bs, r2⟩ := Dp.reads I e y u he ry
  rcases z with rfl | rfl
  · exact SeqAt.notIn_list_reads r2 r1 (SeqAt.canLay_of_shaped se) (SeqAt.canLay_of_shaped sd) (PyProof.Rows.room_in_shaped sd hu) ⟨.bl _, H, I, rfl, q⟩
  · exact SeqAt.notIn_tuple_reads r2 r1 (SeqAt.canLay_of_shaped se) (SeqAt.canLay_of_shaped sd) (PyProof.Rows.room_in_shaped sd hu) ⟨.bl _, H, I, rfl, q⟩
theorem cd_in (hu : X.A.units + 65 < cLine) : CmpD X cl W .In (inS false) := ⟨_, (op_inD hu).or op_in_sign, fun Hm H x y d d' σ Q s hx hy q => by
  unfold inS at q
  split at q
  · split at q
    · rename_i z
      rw [Bool.and_eq_true] at z
      exact .inl ⟨d, _, _, hx.dp s, hy.dp s, .inl rfl, z.1, z.2, fin0 s q (.bl _)⟩
    · exact q.elim
  · split at q
    · rename_i z
      rw [Bool.and_eq_true] at z
      exact .inl ⟨d, _, _, hx.dp s, hy.dp s, .inr rfl, z.1, z.2, fin0 s q (.bl _)⟩
    · exact q.elim
  · split at q
    · exact .inr ⟨_, _, hx.str, hy.str, fin0 s q (.bl _)⟩
    · exact q.elim
  · exact q.elim⟩
theorem cd_notin (hu : X.A.units + 65 < cLine) : CmpD X cl W .NotIn (inS true) := ⟨_, (op_notInD hu).or op_notIn_sign, fun Hm H x y d d' σ Q s hx hy q => by
  unfold inS at q
  split at q
  · split at q
    · rename_i z
      rw [Bool.and_eq_true] at z
      exact .inl ⟨d, _, _, hx.dp s, hy.dp s, .inl rfl, z.1, z.2, fin0 s q (.bl _)⟩
    · exact q.elim
  · split at q
    · rename_i z
      rw [Bool.and_eq_true] at z
      exact .inl ⟨d, _, _, hx.dp s, hy.dp s, .inr rfl, z.1, z.2, fin0 s q (.bl _)⟩
    · exact q.elim
  · split at q
    · exact .inr ⟨_, _, hx.str, hy.str, fin0 s q (.bl _)⟩
    · exact q.elim
  · exact q.elim⟩

/-! ### not, as a value -/
def fNotT (f : Ev → Rs PyData) : Ev → Rs PyData := fun ρ => (f ρ).bind fun d => (truD d).bind fun b => .ok (.bool (!b))
theorem de_not (h : PE X e (tH X.K cl W f)) : PE X (.UnaryOp .Not e pos) (tF X.K cl W (fNotT f)) := (pe_notT h).le fun σ H Q q => by
  obtain ⟨Hm, ρ, s, rp, q⟩ := q
  refine ⟨Hm, ρ, s, rp, FinG.bind q fun d v Hm1 H1 g1 hv q1 => ?_⟩
  unfold truD at q1
  split at q1
  · rw [hv.none]; exact ⟨_, rfl, fin0 g1.s q1 (.bl _)⟩
  · rw [hv.bool]; exact ⟨_, rfl, fin0 g1.s q1 (.bl _)⟩
  · rw [hv.int]; exact ⟨_, rfl, fin0 g1.s q1 (.bl _)⟩
  · obtain ⟨p, xs, rfl, h1, h2⟩ := hv.list g1.s
    refine ⟨_, .inl ⟨xs, h1, rfl⟩, fin0 g1.s q1 ?_⟩
    cases h2 <;> exact .bl _
  · obtain ⟨p, xs, rfl, h1, h2⟩ := hv.tuple g1.s
    refine ⟨_, .inr (.inl ⟨xs, h1, rfl⟩), fin0 g1.s q1 ?_⟩
    cases h2 <;> exact .bl _
  · exact q1.elim

/-! ### a module's constant -/
theorem de_globI {x : Str} {i : Int} {t : Tok} (hm : X.mg x = some (.int i t)) (hg : Gl X x := by rfl) (hd : (x == ("__debug__" : Str)) = false := by decide) : PE X (.Name x pos) (tF X.K cl W (fC (.int i))) := de_const (pe_glob (v := V.int i) hg hm ⟨_, rfl⟩ hd) fun _ => .int i

/-! ### raise -/
/-- what is known of a class of errors -/
structure ClsOk (K : PySem.W.Frag) (mg : Str → Option Value) (x : Str) (C : Addr) : Prop where
  g : mg x = some (.ref C)
  i : PySem.W.excIn K C [.type "ValueError", .type "Exception", .type "BaseException", .type "object"] "ValueError.__new__" = true
  k : PySem.W.keepIn K (.ref C) = true
  b : PySem.W.subIn K (.ref C) (.type "BaseException") = some true
  t : PySem.W.typeIn K (.ref C) = some (.type "type")
theorem ds_raise {k : Cl} {x m : Str} {j : Nat} {p p2 pos2 : Pos} (hc : X.calm = true) (tk : Takes X W) (T : ClsOk X.K X.mg x (cl k)) (hg : Gl X x := by rfl) (hdb : (x == ("__debug__" : Str)) = false := by decide) :
    PS X (.Raise (some (.Call (.Name x p) [.Constant (.str m) j p2] [] pos)) none pos2) (tS X.K cl W n (sRaise k)) :=
  (ps_raise hc tk (pmk_own PySem.F.excBase_ValueError T.i T.g T.k (raises_own T.b T.t) hg hdb)).le fun D σ H q => by
  obtain ⟨Hm0, H0, Hm, ρ, x, q⟩ := q
  exact q σ ρ Hm H x

/-! ### try .. except X as e -/
def sTry (cs : List Cl) (R : Cl → Rs Out) (S : Ev → Rs Out) : Ev → Rs Out := fun ρ => match S ρ with
  | .ex c => if c ∈ cs then R c else .st
  | r => r
end
section
variable {X : Cx} {cl : Cl → Addr} {W : WX} {n : Nat} {x nm : Str} {cv : Value} {i : Nat} {body suite : List Stmt} {b₀ : Stmt} {np pos pos' : Pos} {S : Ev → Rs Out} {e : Expr}
/-- the slots in an except suite: the error's own alone is known -/
inductive SuiteRep (K : PySem.W.Frag) (n : Nat) (i : Nat) (a : Addr) : Hp → Hp → St → Ev → Prop where
  | mk {Hm H : Hp} {σ : St} {ρ : Ev} : Rep K Hm H σ ρ → ρ.length = n → σ[i]? = some (some (.ref a)) → SuiteRep K n i a Hm H σ ρ
/-- a suite that hands back a list of answers -/
def tSuite (K : PySem.W.Frag) (n i : Nat) (a : Addr) (d : PyData) : TS := fun D σ H => ∃ Hm0 H0 Hm, Grow Hm0 H0 Hm H ∧ σ[i]? = some (some (.ref a)) ∧ ∀ v Hm' H', Grow Hm0 H0 Hm' H' → Dp K Hm' v d → D.rt v H'
theorem ds_tryAs {cs : List Cl} {R : Cl → PyData} (hs : X.stack = X.env :: X.outer) (hf : X.env.frame = some X.env.locals) (hN : X.N.Nodup) (hi : X.N[i]? = some nm) (hln : X.env.kindOf nm = some .local) (hc : Names X x cv) (hcs : ∀ c ∈ cs, PySem.W.exmOne X.K (.ref (cl c)) cv = some true)
    (hn : X.N.length = n)
    (hb : ∀ (W' : WX) (pn : List (Addr × Obj)) (xe : Value → Shared → Prop), Takes (X.tr pn xe) W' → PassesOwn (model X.prog X.w) X.A X.env xe → PSs (X.tr pn xe) body (tS X.K cl W' n S))
    (hsu : ∀ c ∈ cs, ∀ (a : Addr) (oe : Obj) (pn : List (Addr × Obj)), Zc (.ref (cl c)) none oe → (∃ vs, oe.data = .fields vs) → PSs (X.suite a ((a, oe) :: pn)) (b₀ :: suite) (tSuite X.K n i a (R c))) :
    PS X (.Try body [.ExceptHandler (some (.Name x np)) (some nm) (b₀ :: suite) pos'] [] [] pos) (tS X.K cl W n (sTry cs (fun c => .ok (.rt (R c))) S)) :=
  (ps_try_as (tb := fun W' => tS X.K cl W' n S) (ts := fun a cls d D σ H => ∃ c, c ∈ cs ∧ cls = .ref (cl c) ∧ d = none ∧ tSuite X.K n i a (R c) D σ H) (Wout := fun _ _ _ _ => False) hs hf hN hi hln hc takes0 hb (fun a oe cls d pn hz hd => ⟨fun pins s σ H D I h => by
    obtain ⟨c, hc', e1, e2, h⟩ := h
    subst e1 e2
    exact (hsu c hc' a oe pn hz hd).run pins s σ H D I h⟩)).le fun D σ H q => by
  obtain ⟨Hm0, H0, Hm, ρ, x, q⟩ := q
  refine ⟨Hm0, H0, Hm, ρ, x, ?_⟩
  unfold sTry at q
  have hi' : i < n := by
    rw [← hn]
    exact (List.getElem?_eq_some_iff.mp hi).1
  cases e : S ρ with
  | st => rw [e] at q; exact q
  | ex c =>
    rw [e] at q
    simp only at q
    split at q
    · rename_i hc'
      intro σ' ρ' Hm' H' y
      refine ⟨true, hcs c hc', fun _ a ha => ⟨c, hc', rfl, rfl, Hm0, H0, Hm', y.g, ?_, fun v Hm2 H2 g2 hv => q v Hm2 H2 g2 hv⟩, fun z => Bool.noConfusion z⟩
      rw [List.getElem?_set_self (by rw [← y.r.len, y.len]; exact hi')]
    · exact q.elim
  | ok o =>
    rw [e] at q
    cases o with
    | nx ρ' => exact q
    | rt d => exact q
    | bk ρ' => exact q
    | ct ρ' => exact q
/-- the answers isinstance(e, C), .. that the suite hands back -/
def tIsa (K : PySem.W.Frag) (i : Nat) (a : Addr) (bs : List Bool) : TA := fun σ H Q => σ[i]? = some (some (.ref a)) ∧ Q (bs.map V.bl) H
theorem ia_nil {a : Addr} : PA X [] (tIsa X.K i a []) := pa_nil.le fun σ H Q q => q.2
theorem dp_bools {K : PySem.W.Frag} {H : Hp} : ∀ bs : List Bool, DpAll K H (bs.map V.bl) (bs.map .bool)
  | [] => .nil
  | b :: bs => .cons (.bl b) (dp_bools bs)
theorem su_ret {a : Addr} {bs : List Bool} {es : List Expr} {p2 : Pos} (h : PA X es (tIsa X.K i a bs)) (hz : bs.length ≤ 16777216) : PSs X [.Return (some (.List es p2)) pos] (tSuite X.K n i a (.list (bs.map .bool))) :=
  (pss_one (ps_ret (pe_lst h))).le fun D σ H q => by
  obtain ⟨Hm0, H0, Hm, g, e, q⟩ := q
  refine ⟨e, by rw [line_eq, List.length_map]; exact hz, fun p hp => ?_⟩
  have g2 := Grow.laid (o := .lst (bs.map V.bl)) g.s hp
  exact q _ _ _ (g.trans g2) (.lst (SqL.of upd_same) (dp_bools bs))
end
section
variable {X : Cx} {n i : Nat} {a : Addr} {oe : Obj} {pn : List (Addr × Obj)} {es : List Expr} {bs : List Bool} {nm T : Str} {C : Addr} {pos p2 p3 p4 : Pos} {b : Bool}
/-- isinstance(e, T), T a class of one's own or a built-in one -/
theorem ia_cons {v : V} {cv : Value} (EC : ExcC X.K C) (hz : Zc (.ref C) none oe) (hf : ∃ vs, oe.data = .fields vs) (hE : PE (X.suite a ((a, oe) :: pn)) (.Name nm p2) (tVar i)) (hT : PE (X.suite a ((a, oe) :: pn)) (.Name T p3) (tC v)) (hv : ∀ u, RelV v u → u = cv)
    (hk : PySem.W.kitOne X.K (.ref C) cv = some b) (hg : Gl X "isinstance") (hm : X.mg "isinstance" = none) (hr : PA (X.suite a ((a, oe) :: pn)) es (tIsa X.K i a bs))
    (hs0 : starEach (.Call (.Name "isinstance" pos) [.Name nm p2, .Name T p3] [] p4 :: es) X.env = (false, eval (.Call (.Name "isinstance" pos) [.Name nm p2, .Name T p3] [] p4) X.env) :: starEach es X.env := by rfl)
    (hs : starEach [.Name nm p2, .Name T p3] X.env = (false, eval (.Name nm p2) X.env) :: starEach [.Name T p3] X.env := by rfl)
    (hs2 : starEach [.Name T p3] X.env = (false, eval (.Name T p3) X.env) :: starEach [] X.env := by rfl) (hpl : (backTo p4 (starEach [.Name T p3] X.env)).any (·.1) = false := by rfl) :
    PA (X.suite a ((a, oe) :: pn)) (.Call (.Name "isinstance" pos) [.Name nm p2, .Name T p3] [] p4 :: es) (tIsa X.K i a (b :: bs)) :=
  (pa_cons (pe_callB (call_isE EC hz hf) hg hm (by decide +kernel) (pa_cons hE (pa_cons hT pa_nil hs2) hs) (by decide) (by decide) hs hpl) hr hs0).le fun σ H Q q => by
  exact ⟨_, q.1, v, cv, b, rfl, hv, hk, q.1, q.2⟩
end
end Bh
namespace Bh
open PySem PySem.Spec L2
open PyProof.Rows (envOfC)

theorem u65 {A : Around} {k : Nat} (hr : Room k A) : A.units + 65 < cLine := by have := hr.un; omega
theorem boot_int : bootBuiltins "int" = some (.type "int") := by decide +kernel
theorem boot_bool : bootBuiltins "bool" = some (.type "bool") := by decide +kernel
theorem boot_str : bootBuiltins "str" = some (.type "str") := by decide +kernel
theorem boot_tuple : bootBuiltins "tuple" = some (.type "tuple") := by decide +kernel
theorem boot_list : bootBuiltins "list" = some (.type "list") := by decide +kernel
theorem boot_len : bootBuiltins "len" = some (.builtin "len") := by decide +kernel
theorem boot_sorted : bootBuiltins "sorted" = some (.builtin "sorted") := by decide +kernel
theorem boot_min : bootBuiltins "min" = some (.builtin "min") := by decide +kernel
theorem boot_max : bootBuiltins "max" = some (.builtin "max") := by decide +kernel

theorem isi_int (d : PyData) (t : String) (b : Bool) (h : tyName d = some t) (h' : isaT "int" d = .ok (.bool b)) : kitB t "int" = some b := by
  cases d <;> first | (cases h; cases h'; decide +kernel) | cases h
theorem isi_bool (d : PyData) (t : String) (b : Bool) (h : tyName d = some t) (h' : isaT "bool" d = .ok (.bool b)) : kitB t "bool" = some b := by
  cases d <;> first | (cases h; cases h'; decide +kernel) | cases h
theorem isi_str (d : PyData) (t : String) (b : Bool) (h : tyName d = some t) (h' : isaT "str" d = .ok (.bool b)) : kitB t "str" = some b := by
  cases d <;> first | (cases h; cases h'; decide +kernel) | cases h
theorem isi_tuple (d : PyData) (t : String) (b : Bool) (h : tyName d = some t) (h' : isaT "tuple" d = .ok (.bool b)) : kitB t "tuple" = some b := by
  cases d <;> first | (cases h; cases h'; decide +kernel) | cases h
theorem isi_list (d : PyData) (t : String) (b : Bool) (h : tyName d = some t) (h' : isaT "list" d = .ok (.bool b)) : kitB t "list" = some b := by
  cases d <;> first | (cases h; cases h'; decide +kernel) | cases h

theorem forall_nil {P : Cl → Prop} : ∀ c ∈ ([] : List Cl), P c := fun _ h => nomatch h
theorem forall_cons {P : Cl → Prop} {c : Cl} {cs : List Cl} (h : P c) (t : ∀ c ∈ cs, P c) : ∀ x ∈ c :: cs, P x := fun x hx => by
  rcases List.mem_cons.mp hx with rfl | hx
  · exact h
  · exact t x hx
def LenLe (fs : Ev → Rs (List PyData)) (m : Nat) : Prop := ∀ ρ ds, fs ρ = .ok ds → ds.length ≤ m
theorem ln_nil : LenLe fA0 0 := fun ρ ds h => by cases h; exact Nat.le_refl _
theorem ln_cons {f : Ev → Rs PyData} {fs : Ev → Rs (List PyData)} {m : Nat} (h : LenLe fs m) : LenLe (fAc f fs) (m + 1) := fun ρ ds e => by
  unfold fAc at e
  cases e1 : f ρ with
  | st => rw [e1] at e; cases e
  | ex c => rw [e1] at e; cases e
  | ok d =>
    rw [e1] at e
    simp only [Rs.bind_ok] at e
    cases e2 : fs ρ with
    | st => rw [e2] at e; cases e
    | ex c => rw [e2] at e; cases e
    | ok ds' =>
      rw [e2] at e
      cases e
      have := h ρ ds' e2
      simp only [List.length_cons]
      omega
theorem ln_le {fs : Ev → Rs (List PyData)} {m : Nat} (h : LenLe fs m) (hm : m ≤ 16777216) : ∀ ρ ds, fs ρ = .ok ds → ds.length ≤ 16777216 := fun ρ ds e => Nat.le_trans (h ρ ds e) hm

/-! is True -/
def dIsT (d : PyData) : Bool := match d with
  | .bool true => true
  | _ => false
def dIsNotT : PyData → PyData → Rs PyData
  | d, .bool true => .ok (.bool (!dIsT d))
  | _, _ => .st
section
variable {X : Cx} {cl : Cl → Addr} {W : WX} {a b c e tg : Expr} {es : List Expr} {f g : Ev → Rs PyData} {fs : Ev → Rs (List PyData)} {pos : Pos} {n : Nat} {st : Stmt}
theorem op_isnotT : OpR X (compareOp .IsNot) (fun x y H Q => ∃ d, Dp X.K H x d ∧ y = .bl true ∧ Q (.bl (!dIsT d)) H) := by
  intro pins s σ H x y v u Q I rx ry h
  obtain ⟨d, hd, rfl, q⟩ := h
  cases ry
  cases hd with
  | non => cases rx; exact wpAny_pure ⟨.bl _, H, I, rfl, q⟩
  | bl b => cases rx; cases b <;> exact wpAny_pure ⟨.bl _, H, I, rfl, q⟩
  | int i => obtain ⟨t, rfl⟩ := rx; exact wpAny_pure ⟨.bl _, H, I, rfl, q⟩
  | str i => obtain ⟨t, rfl⟩ := rx; exact wpAny_pure ⟨.bl _, H, I, rfl, q⟩
  | lst h1 h2 => cases rx; exact wpAny_pure ⟨.bl _, H, I, rfl, q⟩
  | tup h1 h2 => cases rx; exact wpAny_pure ⟨.bl _, H, I, rfl, q⟩
theorem cd_isnotT : CmpD X cl W .IsNot dIsNotT := ⟨_, op_isnotT, fun Hm H x y d d' σ Q s hx hy q => by
  unfold dIsNotT at q
  split at q
  · exact ⟨d, hx.dp s, hy.bool, fin0 s q (.bl _)⟩
  · exact q.elim⟩

/-! return of a name that may be a list of one's own -/
def sRetAny (i : Nat) : Ev → Rs Out := fun ρ => match ρ[i]? with
  | some (.val d) => .ok (.rt d)
  | some (.own ds) => .ok (.rt (.list ds))
  | _ => .st
theorem ds_retAny {i : Nat} {x : Str} {p' : Pos} (h : PE X (.Name x p') (tVar i)) : PS X (.Return (some (.Name x p')) pos) (tS X.K cl W n (sRetAny i)) := (ps_ret h).le fun D σ H q => by
  obtain ⟨Hm0, H0, Hm, ρ, x, q⟩ := q
  unfold sRetAny at q
  split at q
  · rename_i d e
    obtain ⟨v, e1, hv⟩ := x.r.val e
    exact ⟨v, e1, q v Hm H x.g hv⟩
  · rename_i ds e
    obtain ⟨p, xs, e1, n1, hp, ha⟩ := x.r.own e
    have n0 := x.o i _ p e rfl e1
    exact ⟨_, e1, q _ (upd Hm p (.lst xs)) H (frozen x.g n1 hp n0) (.lst (SqL.of upd_same) (ha.same (same_upd n1)))⟩
  · exact q.elim
/-- x = [..], where the comprehension's list is laid as any value -/
theorem ds_setOwnE {i : Nat} {x : Str} {pos' : Pos} (hN : X.N.Nodup) (hi : X.N[i]? = some x) (hx : Loc X.env.scope x) (he : PE X e (tN X.K cl W fs)) (hs : swapsWith e (some (.Name x pos')) pos.line X.env = pure false := by rfl)
    (hf : X.fn x = true ∨ X.env.scope.names.lookup x = some .local := by first | exact .inl rfl | exact .inr rfl | assumption) : PS X (.Assign [.Name x pos'] e pos) (tS X.K cl W n (sSetOwn i fs)) :=
  ds_setOwnT (ps_set hN hi hx he hs hf) fun _ _ _ q => q
/-- xs[i] = e -/
def sSetItem (i : Nat) (k f : Ev → Rs PyData) : Ev → Rs Out := fun ρ => (f ρ).bind fun d => match ρ[i]? with
  | some (.own ds) => (k ρ).bind fun kd => match kd with
    | .int j => match ixN ds.length j with
      | some m => .ok (.nx (ρ.set i (.own (ds.set m d))))
      | none => .st
    | _ => .st
  | _ => .st
theorem ds_setItem {i : Nat} {k : Ev → Rs PyData}
    (hst : PS X st (tAsg (tF X.K cl W f) (gSub (tVar i) (tH X.K cl W k) rSetL))) : PS X st (tS X.K cl W n (sSetItem i k f)) := hst.le fun D σ H q => by
  obtain ⟨Hm0, H0, Hm, ρ, x, q⟩ := q
  refine ⟨Hm, ρ, x.g.s, x.r, expr_in x q fun d v Hm1 H1 g1 hv q1 => ?_⟩
  have y := x.grow g1
  split at q1
  · rename_i ds hr
    obtain ⟨p, xs, e1, n1, hp, ha⟩ := y.r.own hr
    refine ⟨_, e1, Hm1, ρ, g1.s, y.r, expr_in y q1 fun kd vk Hm2 H2 g2 hvk q2 => ?_⟩
    have y2 := y.grow g2
    obtain ⟨p', xs', e2, n2, hp2, ha2⟩ := y2.r.own hr
    have ee : p' = p := by
      rw [e1] at e2
      cases e2
      rfl
    subst ee
    split at q2
    · rename_i j
      split at q2
      · rename_i m hm
        refine ⟨p', xs', j, m, rfl, hvk.int, hp2, by rw [ha2.length]; exact hm, ?_⟩
        exact q2 σ Hm2 _ (y2.mut hr rfl e2 n2 rfl ⟨p', xs'.set m v, rfl, n2, upd_same, DpAll.set (hv.same g2.m) m ha2⟩)
      · exact q2.elim
    · exact q2.elim
  · exact q1.elim
end
end Bh
namespace Bh
open PySem PySem.Spec L2
open PyProof.Rows (envOfC)
section
variable {P : Program} {w : World} {K : PySem.W.Frag} {mg : Str → Option Value} {base : Heap}
theorem fn_dataF {x qual : Str} {st : Stmt} {f : Addr} {fd : FuncData} {N ps : List Str} {k n ar : Nat} {cl : Cl → Addr} {S : Ev → Rs Out} {G : List PyData → Rs PyData} (F : Fun K x qual st f fd) (Sc : FnScope N ps (defScope st)) (hG : G = runB n ar S) (hn : N.length = n) (ha : ps.length = ar)
    (hb : ∀ (cdv : Value) (A : Around) (outer : List Env) (s : Shared) (H : Hp) (E : XK), Room k (A.deeper (envOfC qual (defScope st) s.heap.objs.size f cdv)) →
      PSs (cxOf (L2.CX P w) P w K mg base N qual (defScope st) f cdv A outer s H E) (defBody st) (tS K cl (fun c d _ H => E c d H) n S)) :
    FnOk P w K mg base (L2.CX P w) (k + 1) f fd ps (dSp K cl ar G) := by
  subst hn ha hG
  exact fn_data F Sc hb
end
end Bh
namespace Bh
open PySem PySem.Spec L2
/-- the law's own promise -/
def lawSp (K : PySem.W.Frag) (F : List PyData → Rs PyData) : Sp := fun vs H Q _ => vs.length = 1 ∧ ∃ Hm ds, Same Hm H ∧ DpAll K Hm vs ds ∧ F ds = .ok (.bool true) ∧ ∀ H', Q (.bl true) H'
theorem lawSp_ok {P : Program} {w : World} {K : PySem.W.Frag} {mg : Str → Option Value} {base : Heap} {cl : Cl → Addr} {k : Nat} {f : Addr} {fd : FuncData} {ps : List Str} {F : List PyData → Rs PyData} (h : FnOk P w K mg base (L2.CX P w) k f fd ps (dSp K cl 1 F)) :
    FnOk P w K mg base (L2.CX P w) k f fd ps (lawSp K F) := h.imp fun vs H Q E q => by
  obtain ⟨hl, Hm, ds, s, ha, e, q⟩ := q
  refine ⟨hl, Hm, ds, s, ha, ?_⟩
  rw [e]
  intro v Hm' H' g hv
  cases hv
  exact q H'
theorem dp_ints {K : PySem.W.Frag} {H : Hp} : ∀ ns : List Int, DpAll K H (ns.map V.int) (ns.map .int)
  | [] => .nil
  | n :: ns => .cons (.int n) (dp_ints ns)
theorem lawSp_mk {K : PySem.W.Frag} {F : List PyData → Rs PyData} {H : Hp} {a : Addr} {ns : List Int} {E : XK} (hS : SqL K H a (ns.map V.int)) (h : F [.list (ns.map .int)] = .ok (.bool true)) : lawSp K F [.ref a] H (fun v _ => v = .bl true) E :=
  ⟨rfl, H, _, Same.refl _, .cons (.lst hS (dp_ints ns)) .nil, h, fun _ => rfl⟩
theorem cx_false {P : Program} {w : World} {l : List Env} {H : Hp} {s : Shared} {e : Value} {s' : Shared} (h : L2.CX P w l H s (fun _ _ _ => False) e s') : False := by
  obtain ⟨_, _, _, _, _, _, _, _, _, _, _, _, z⟩ := h
  exact z
end Bh
namespace Bh
open PySem PySem.Spec L2
theorem kit_ownT {K : PySem.W.Frag} {D C : Addr} (hd : PySem.W.hasDictIn K C = true) (ht : PySem.W.typeIn K (.ref C) = some (.type "type")) (hs : PySem.W.subIn K (.ref D) (.ref C) = some true) : PySem.W.kitOne K (.ref D) (.ref C) = some true := by
  unfold PySem.W.kitOne
  split
  · rfl
  · unfold PySem.W.kitCls
    obtain ⟨cd, hc, _⟩ := PySem.W.any_some hd
    simp only [hc, ht]
    exact hs
theorem kit_ownF {K : PySem.W.Frag} {D C : Addr} (hne : D ≠ C) (hd : PySem.W.hasDictIn K C = true) (ht : PySem.W.typeIn K (.ref C) = some (.type "type")) (hs : PySem.W.subIn K (.ref D) (.ref C) = some false) : PySem.W.kitOne K (.ref D) (.ref C) = some false := by
  unfold PySem.W.kitOne
  split
  · rename_i h
    exact absurd (Value.ref.inj (beq_iff_eq.mp h)) hne
  · unfold PySem.W.kitCls
    obtain ⟨cd, hc, _⟩ := PySem.W.any_some hd
    simp only [hc, ht]
    exact hs
theorem kit_bltn {K : PySem.W.Frag} {D : Addr} {T : String} {b : Bool} (hm : PySem.W.kitMeta T = true) (hs : PySem.W.subIn K (.ref D) (.type T) = some b) : PySem.W.kitOne K (.ref D) (.type T) = some b := by
  unfold PySem.W.kitOne
  split
  · rename_i h
    cases beq_iff_eq.mp h
  · unfold PySem.W.kitCls
    simp only [hm]
    exact hs
theorem meta_VE : PySem.W.kitMeta "ValueError" = true := by decide +kernel
end Bh
namespace Bh
open PySem PySem.Spec L2
section
variable {f g : Ev → Rs PyData} {fs : Ev → Rs (List PyData)} {q r : Ev → Rs Bool} {S T : Ev → Rs Out} {ρ : Ev} {o : PyData → PyData → Rs PyData}
@[simp] theorem e_C {d : PyData} : fC d ρ = .ok d := rfl
@[simp] theorem e_A0 : fA0 ρ = .ok [] := rfl
@[simp] theorem e_Ac : fAc f fs ρ = (f ρ).bind fun d => (fs ρ).bind fun ds => .ok (d :: ds) := rfl
@[simp] theorem e_f1 {o : PyData → Rs PyData} : f1 o f ρ = (f ρ).bind o := rfl
@[simp] theorem e_f2 : f2 o f g ρ = (f ρ).bind fun x => (g ρ).bind fun y => o x y := rfl
@[simp] theorem e_Call {F : List PyData → Rs PyData} : fCall F fs ρ = (fs ρ).bind F := rfl
@[simp] theorem e_Seq : sSeq S T ρ = (S ρ).bind (seqO T) := rfl
@[simp] theorem e_seqO : seqO T (.nx ρ) = T ρ := rfl
@[simp] theorem e_seqO_rt {d : PyData} : seqO T (.rt d) = .ok (.rt d) := rfl
@[simp] theorem e_Ret : sRet f ρ = (f ρ).bind fun d => .ok (.rt d) := rfl
@[simp] theorem e_Nil : sNil ρ = .ok (.nx ρ) := rfl
@[simp] theorem e_If : sIf q S T ρ = (q ρ).bind fun b => if b = true then S ρ else T ρ := rfl
@[simp] theorem e_Expr : sExpr f ρ = (f ρ).bind fun _ => .ok (.nx ρ) := rfl
@[simp] theorem e_Set {i : Nat} : sSet i f ρ = (f ρ).bind fun d => .ok (.nx (ρ.set i (.val d))) := rfl
@[simp] theorem e_SetOwn {i : Nat} : sSetOwn i fs ρ = (fs ρ).bind fun d => .ok (.nx (ρ.set i (.own d))) := rfl
@[simp] theorem e_Raise {c : Cl} : sRaise c ρ = .ex c := rfl
@[simp] theorem e_qAnd : qAnd q r ρ = (q ρ).bind fun b => if b = true then r ρ else .ok false := rfl
@[simp] theorem e_qOr : qOr q r ρ = (q ρ).bind fun b => if b = true then .ok true else r ρ := rfl
@[simp] theorem e_qNot : qNot q ρ = (q ρ).bind fun b => .ok (!b) := rfl
@[simp] theorem e_qVal : qVal f ρ = (f ρ).bind bolD := rfl
@[simp] theorem e_qTru : qTru f ρ = (f ρ).bind truD := rfl
@[simp] theorem e_fNotT : fNotT f ρ = (f ρ).bind fun d => (truD d).bind fun b => .ok (.bool (!b)) := rfl
@[simp] theorem e_New : fNew fs ρ = (fs ρ).bind fun ds => .ok (.list ds) := rfl
@[simp] theorem e_outrt {d : PyData} : outV (.rt d) = .ok d := rfl
@[simp] theorem e_outnx : outV (.nx ρ) = .ok .none := rfl
@[simp] theorem e_bolD {b : Bool} : bolD (.bool b) = .ok b := rfl
@[simp] theorem e_truN : truD .none = .ok false := rfl
@[simp] theorem e_truB {b : Bool} : truD (.bool b) = .ok b := rfl
@[simp] theorem e_truL {xs : List PyData} : truD (.list xs) = .ok (!xs.isEmpty) := rfl
@[simp] theorem e_truT {xs : List PyData} : truD (.tuple xs) = .ok (!xs.isEmpty) := rfl
@[simp] theorem e_Var0 {d : PyData} : fVar 0 (.val d :: ρ) = .ok d := rfl
@[simp] theorem e_VarS {i : Nat} {s : Sl} : fVar (i + 1) (s :: ρ) = fVar i ρ := rfl
@[simp] theorem e_hVar0 {d : PyData} : hVar 0 (.val d :: ρ) = .ok d := rfl
@[simp] theorem e_hVar0o {ds : List PyData} : hVar 0 (.own ds :: ρ) = .ok (.list ds) := rfl
@[simp] theorem e_hVarS {i : Nat} {s : Sl} : hVar (i + 1) (s :: ρ) = hVar i ρ := rfl
@[simp] theorem e_addI {a b : Int} : dAdd (.int a) (.int b) = .ok (.int (a + b)) := rfl
@[simp] theorem e_subI {a b : Int} : dSub (.int a) (.int b) = .ok (.int (a - b)) := rfl
@[simp] theorem e_negI {a : Int} : dNeg (.int a) = .ok (.int (-a)) := rfl
@[simp] theorem e_ltI {a b : Int} : dLt (.int a) (.int b) = .ok (.bool (decide (a < b))) := rfl
@[simp] theorem e_leI {a b : Int} : dLe (.int a) (.int b) = .ok (.bool (decide (a ≤ b))) := rfl
@[simp] theorem e_gtI {a b : Int} : dGt (.int a) (.int b) = .ok (.bool (decide (b < a))) := rfl
@[simp] theorem e_geI {a b : Int} : dGe (.int a) (.int b) = .ok (.bool (decide (b ≤ a))) := rfl
theorem e_modI {a b : Int} (h : 0 < b) : dMod (.int a) (.int b) = .ok (.int (a % b)) := by
  show (if decide (0 < b) = true then _ else _) = _
  rw [if_pos (decide_eq_true h)]
theorem e_fdivI {a b : Int} (h : 0 < b) (h2 : b < 1073741824) : dFdiv (.int a) (.int b) = .ok (.int (a / b)) := by
  show (if (decide (0 < b) && decide (b < 1073741824)) = true then _ else _) = _
  rw [if_pos (by rw [decide_eq_true h, decide_eq_true h2]; rfl)]
theorem e_mulI {a b : Int} (h : -18446744073709551616 < a) (h2 : a < 18446744073709551616) : dMul (.int a) (.int b) = .ok (.int (a * b)) := by
  show (if (decide (-18446744073709551616 < a) && decide (a < 18446744073709551616) || decide (-18446744073709551616 < b) && decide (b < 18446744073709551616)) = true then _ else _) = _
  rw [if_pos (by rw [decide_eq_true h, decide_eq_true h2]; rfl)]
theorem e_mulI' {a b : Int} (h : -18446744073709551616 < b) (h2 : b < 18446744073709551616) : dMul (.int a) (.int b) = .ok (.int (a * b)) := by
  show (if (decide (-18446744073709551616 < a) && decide (a < 18446744073709551616) || decide (-18446744073709551616 < b) && decide (b < 18446744073709551616)) = true then _ else _) = _
  rw [if_pos (by rw [decide_eq_true h, decide_eq_true h2]; cases (decide (-18446744073709551616 < a) && decide (a < 18446744073709551616)) <;> rfl)]
@[simp] theorem e_isN : dIs .none .none = .ok (.bool true) := rfl
theorem e_is {d : PyData} : dIs d .none = .ok (.bool (dIsNone d)) := by cases d <;> rfl
theorem e_isnot {d : PyData} : dIsNot d .none = .ok (.bool (!dIsNone d)) := by cases d <;> rfl
@[simp] theorem shaped_int (i : Int) : SeqAt.shaped (.int i) = true := rfl
@[simp] theorem shaped_bool (i : Bool) : SeqAt.shaped (.bool i) = true := rfl
@[simp] theorem shaped_none : SeqAt.shaped .none = true := rfl
theorem e_eqI {a b : Int} : dEq (.int a) (.int b) = .ok (.bool (a == b)) := rfl
end
/-! what a def computes, its meaning once unfolded -/
theorem runB1 {n : Nat} {S : Ev → Rs Out} {d : PyData} : runB n 1 S [d] = (S (.val d :: List.replicate (n - 1) .no)).bind outV := rfl
theorem runB2 {n : Nat} {S : Ev → Rs Out} {d e : PyData} : runB n 2 S [d, e] = (S (.val d :: .val e :: List.replicate (n - 2) .no)).bind outV := rfl
theorem runB3 {n : Nat} {S : Ev → Rs Out} {d e f : PyData} : runB n 3 S [d, e, f] = (S (.val d :: .val e :: .val f :: List.replicate (n - 3) .no)).bind outV := rfl
end Bh
set_option maxHeartbeats 4000000
namespace Bh
open PySem PySem.Spec L2
def S_is_within : Ev → Rs Out :=
  (sRet (fAnd (f1 (isaT "int") (fVar 0)) (fAnd (fNotT (f1 (isaT "bool") (fVar 0))) (fChain dLe dLe (fVar 1) (fVar 0) (fVar 2)))))
def F_is_within : List PyData → Rs PyData := runB 3 3 S_is_within

def S_could_be_1 : Ev → Rs Out :=
  (sIf (qOr (qNot (qTru (fCall F_is_within (fAc (fVar 0) (fAc (fC (.int 2)) (fAc (fC (.int 31)) fA0)))))) (qOr (qNot (qTru (fCall F_is_within (fAc (fVar 1) (fAc (fC (.int 2)) (fAc (fVar 0) fA0)))))) (qNot (qTru (fCall F_is_within (fAc (fVar 2) (fAc (fC (.int 1)) (fAc (fC (.int 200)) fA0)))))))) (sRaise .badNumber) sNil)
def S_could_be_2 : Ev → Rs Out :=
  (sIf (qVal (f2 dGt (f2 dMod (f2 dMul (fVar 2) (f2 dSub (fVar 0) (fC (.int 1)))) (f2 dSub (fVar 1) (fC (.int 1)))) (fC (.int 0)))) (sRet (fC .none)) sNil)
def S_could_be_3 : Ev → Rs Out :=
  (sSet 3 (f2 dFdiv (f2 dMul (fVar 2) (f2 dSub (fVar 0) (fC (.int 1)))) (f2 dSub (fVar 1) (fC (.int 1)))))
def S_could_be_4 : Ev → Rs Out :=
  (sIf (qOr (qVal (f2 dGt (f2 dMod (f2 dMul (fVar 0) (fVar 3)) (fVar 1)) (fC (.int 0)))) (qAnd (qVal (f2 dLt (fVar 1) (fVar 0))) (qVal (f2 dLt (f2 dFdiv (f2 dMul (fVar 0) (fVar 3)) (fVar 1)) (fVar 0))))) (sRet (fC .none)) sNil)
def S_could_be_5 : Ev → Rs Out :=
  (sRet (fCall fTup (fAc (f2 dFdiv (f2 dMul (fVar 0) (fVar 3)) (fVar 1)) (fAc (fVar 3) fA0))))
def T_could_be_5 : Ev → Rs Out := S_could_be_5
def T_could_be_4 : Ev → Rs Out := sSeq S_could_be_4 T_could_be_5
def T_could_be_3 : Ev → Rs Out := sSeq S_could_be_3 T_could_be_4
def T_could_be_2 : Ev → Rs Out := sSeq S_could_be_2 T_could_be_3
def T_could_be_1 : Ev → Rs Out := sSeq S_could_be_1 T_could_be_2
def S_could_be : Ev → Rs Out :=
  T_could_be_1
def F_could_be : List PyData → Rs PyData := runB 4 3 S_could_be

def S_law_cell_1 : Ev → Rs Out :=
  (sIf (qVal (f2 dLt (fVar 1) (fCall dLen (fAc (fVar 0) fA0)))) (sRet (f2 dIx (fVar 0) (fVar 1))) sNil)
def S_law_cell_2 : Ev → Rs Out :=
  (sRet (fC (.int 0)))
def T_law_cell_2 : Ev → Rs Out := S_law_cell_2
def T_law_cell_1 : Ev → Rs Out := sSeq S_law_cell_1 T_law_cell_2
def S_law_cell : Ev → Rs Out :=
  T_law_cell_1
def F_law_cell : List PyData → Rs PyData := runB 2 2 S_law_cell

def S_law_told_k04 : Ev → Rs Out :=
  (sTry [.badNumber] (fun c => .ok (.rt ((fun c => match c with | .badNumber => .list [.bool true, .bool true] | _ => .none) c))) (sRet (fCall F_could_be (fAc (fVar 0) (fAc (fVar 1) (fAc (fVar 2) fA0))))))
def F_law_told_k04 : List PyData → Rs PyData := runB 4 3 S_law_told_k04

def S_law_once_k04_1 : Ev → Rs Out :=
  (sSet 1 (f2 dAdd (fC (.int 2)) (f2 dMod (fCall F_law_cell (fAc (fVar 0) (fAc (fC (.int 0)) fA0))) (fC (.int 30)))))
def S_law_once_k04_2 : Ev → Rs Out :=
  (sSet 2 (f2 dAdd (fC (.int 2)) (f2 dMod (fCall F_law_cell (fAc (fVar 0) (fAc (fC (.int 1)) fA0))) (f2 dSub (fVar 1) (fC (.int 1))))))
def S_law_once_k04_3 : Ev → Rs Out :=
  (sSet 3 (f2 dAdd (fC (.int 1)) (f2 dMod (fCall F_law_cell (fAc (fVar 0) (fAc (fC (.int 2)) fA0))) (f2 dIx (fCall fLst (fAc (fC (.int 9)) (fAc (fC (.int 200)) fA0))) (f2 dMod (fCall F_law_cell (fAc (fVar 0) (fAc (fC (.int 3)) fA0))) (fC (.int 2)))))))
def S_law_once_k04_4 : Ev → Rs Out :=
  (sIf (qVal (f2 dEq (f2 dMod (fCall F_law_cell (fAc (fVar 0) (fAc (fC (.int 3)) fA0))) (fC (.int 4))) (fC (.int 3)))) (sSeq (sSet 6 (f2 dIx (fCall fLst (fAc (fC .none) (fAc (fC (.bool true)) (fAc (fC (.str ("3" : Str))) (fAc (f1 dNeg (fC (.int 1))) (fAc (fC (.int 0)) (fAc (fC (.int 1)) (fAc (fCall fLst (fAc (fC (.int 2)) fA0)) (fAc (f2 dAdd (fC (.int 201)) (f2 dMod (fCall F_law_cell (fAc (fVar 0) (fAc (fC (.int 2)) fA0))) (fC (.int 99)))) fA0))))))))) (f2 dMod (fCall F_law_cell (fAc (fVar 0) (fAc (fC (.int 0)) fA0))) (fC (.int 8)))))
    (sSeq (sSet 7 (f2 dMod (fCall F_law_cell (fAc (fVar 0) (fAc (fC (.int 1)) fA0))) (fC (.int 3))))
    (sSeq (sIf (qAnd (qVal (f2 dEq (fVar 7) (fC (.int 2)))) (qAnd (qVal (f2 dEq (fVar 6) (fC (.int 1)))) (qVal (f2 dIsNotT (fVar 6) (fC (.bool true)))))) (sSet 6 (fC (.int 0))) sNil)
    (sSeq (sSetOwn 8 (fAc (fVar 1) (fAc (fVar 2) (fAc (fVar 3) fA0))))
    (sSeq (sSetItem 8 (fVar 7) (fVar 6))
    (sSeq (sIf (qAnd (qVal (f2 dEq (fVar 7) (fC (.int 1)))) (qVal (f2 dEq (f2 dMod (fCall F_law_cell (fAc (fVar 0) (fAc (fC (.int 2)) fA0))) (fC (.int 3))) (fC (.int 0))))) (sSetItem 8 (fC (.int 1)) (f2 dAdd (fVar 1) (fC (.int 1)))) sNil)
    (sRet (f2 dEq (fCall F_law_told_k04 (fAc (f2 dIx (hVar 8) (fC (.int 0))) (fAc (f2 dIx (hVar 8) (fC (.int 1))) (fAc (f2 dIx (hVar 8) (fC (.int 2))) fA0)))) (fCall fLst (fAc (fC (.bool true)) (fAc (fC (.bool true)) fA0))))))))))) sNil)
def S_law_once_k04_5 : Ev → Rs Out :=
  (sIf (qVal (f2 dEq (f2 dMod (fCall F_law_cell (fAc (fVar 0) (fAc (fC (.int 3)) fA0))) (fC (.int 4))) (fC (.int 1)))) (sSeq (sSet 8 (fCall fTup (fAc (fCall fTup (fAc (fC (.int 16)) (fAc (fC (.int 6)) (fAc (fC (.int 1)) fA0)))) (fAc (fCall fTup (fAc (fC (.int 16)) (fAc (fC (.int 10)) (fAc (fC (.int 3)) fA0)))) (fAc (fCall fTup (fAc (fC (.int 21)) (fAc (fC (.int 6)) (fAc (fC (.int 1)) fA0)))) (fAc (fCall fTup (fAc (fC (.int 21)) (fAc (fC (.int 15)) (fAc (fC (.int 7)) fA0)))) (fAc (fCall fTup (fAc (fC (.int 25)) (fAc (fC (.int 10)) (fAc (fC (.int 3)) fA0)))) (fAc (fCall fTup (fAc (fC (.int 25)) (fAc (fC (.int 15)) (fAc (fC (.int 7)) fA0)))) fA0))))))))
    (sAsg (gsT [1, 2, 3]) (f2 dIx (hVar 8) (f2 dMod (fCall F_law_cell (fAc (fVar 0) (fAc (fC (.int 0)) fA0))) (fC (.int 6)))))) sNil)
def S_law_once_k04_6 : Ev → Rs Out :=
  (sSet 4 (fC .none))
def S_law_once_k04_7 : Ev → Rs Out :=
  (sIf (qVal (f2 dEq (f2 dMod (f2 dMul (fVar 3) (f2 dSub (fVar 1) (fC (.int 1)))) (f2 dSub (fVar 2) (fC (.int 1)))) (fC (.int 0)))) (sSeq (sSet 9 (f2 dFdiv (f2 dMul (fVar 3) (f2 dSub (fVar 1) (fC (.int 1)))) (f2 dSub (fVar 2) (fC (.int 1)))))
    (sIf (qAnd (qVal (f2 dEq (f2 dMod (f2 dMul (fVar 9) (fVar 1)) (fVar 2)) (fC (.int 0)))) (qOr (qVal (f2 dEq (fVar 2) (fVar 1))) (qVal (f2 dGe (f2 dFdiv (f2 dMul (fVar 9) (fVar 1)) (fVar 2)) (fVar 1))))) (sSet 4 (fCall fTup (fAc (f2 dFdiv (f2 dMul (fVar 9) (fVar 1)) (fVar 2)) (fAc (fVar 9) fA0)))) sNil)) sNil)
def S_law_once_k04_8 : Ev → Rs Out :=
  (sSet 5 (fCall F_could_be (fAc (fVar 1) (fAc (fVar 2) (fAc (fVar 3) fA0)))))
def S_law_once_k04_9 : Ev → Rs Out :=
  (sIf (qVal (f2 dIs (fVar 4) (fC .none))) (sRet (f2 dIs (fVar 5) (fC .none))) sNil)
def S_law_once_k04_10 : Ev → Rs Out :=
  (sRet (fAnd (f1 (isaT "tuple") (fVar 5)) (f2 dEq (fVar 5) (fVar 4))))
def T_law_once_k04_10 : Ev → Rs Out := S_law_once_k04_10
def T_law_once_k04_9 : Ev → Rs Out := sSeq S_law_once_k04_9 T_law_once_k04_10
def T_law_once_k04_8 : Ev → Rs Out := sSeq S_law_once_k04_8 T_law_once_k04_9
def T_law_once_k04_7 : Ev → Rs Out := sSeq S_law_once_k04_7 T_law_once_k04_8
def T_law_once_k04_6 : Ev → Rs Out := sSeq S_law_once_k04_6 T_law_once_k04_7
def T_law_once_k04_5 : Ev → Rs Out := sSeq S_law_once_k04_5 T_law_once_k04_6
def T_law_once_k04_4 : Ev → Rs Out := sSeq S_law_once_k04_4 T_law_once_k04_5
def T_law_once_k04_3 : Ev → Rs Out := sSeq S_law_once_k04_3 T_law_once_k04_4
def T_law_once_k04_2 : Ev → Rs Out := sSeq S_law_once_k04_2 T_law_once_k04_3
def T_law_once_k04_1 : Ev → Rs Out := sSeq S_law_once_k04_1 T_law_once_k04_2
def S_law_once_k04 : Ev → Rs Out :=
  T_law_once_k04_1
def F_law_once_k04 : List PyData → Rs PyData := runB 10 1 S_law_once_k04

def S_law_k04 : Ev → Rs Out :=
  (sRet (fAnd (fCall F_law_once_k04 (fAc (fVar 0) fA0)) (fCall F_law_once_k04 (fAc (fNew (fLcN (iSeq (fVar 0)) (gs1 1) qYes (f2 dAdd (fVar 1) (fC (.int 1))) [1])) fA0))))
def F_law_k04 : List PyData → Rs PyData := runB 2 1 S_law_k04

end Bh
set_option maxHeartbeats 1000000
namespace Bh
open PySem PySem.Spec L2
theorem atI_ints (ns : List Int) (k : Int) (h0 : 0 ≤ k) (h1 : k < ns.length) : atI (ns.map PyData.int) k = some (.int (ns.getD k.toNat 0)) := by
  obtain ⟨j, rfl⟩ : ∃ j : Nat, k = j := ⟨k.toNat, by omega⟩
  refine atI_nat ?_
  have hj : j < ns.length := by omega
  rw [List.getElem?_map, List.getElem?_eq_getElem hj]
  simp [List.getD, hj]
theorem m_cell (ns : List Int) (k : Int) (h0 : 0 ≤ k) : F_law_cell [.list (ns.map .int), .int k] = .ok (.int (ns.getD k.toNat 0)) := by
  unfold F_law_cell
  rw [runB2]
  simp only [S_law_cell, T_law_cell_1, T_law_cell_2, S_law_cell_1, S_law_cell_2, e_Seq, e_If, e_qVal, e_f2, e_Var0, e_VarS, Rs.bind_ok, e_Call, e_Ac, e_A0, dLen, e_ltI, e_bolD, List.length_map]
  by_cases h : k < (ns.length : Int)
  · simp [h, dIx, atD, atI_ints ns k h0 h]
  · have : ns.length ≤ k.toNat := by omega
    simp [h, List.getD, List.getElem?_eq_none this]
theorem m_within (a lo hi : Int) : F_is_within [.int a, .int lo, .int hi] = .ok (.bool (decide (lo ≤ a) && decide (a ≤ hi))) := by
  unfold F_is_within
  rw [runB3]
  by_cases h : lo ≤ a <;> simp [S_is_within, fAnd, isaT, fChain, h]
theorem m_within_no (d : PyData) (lo hi : Int) (h : ∀ a, d ≠ .int a) (h' : ∀ a, d ≠ .dict a) : F_is_within [d, .int lo, .int hi] = .ok (.bool false) := by
  unfold F_is_within
  rw [runB3]
  cases d with
  | int a => exact absurd rfl (h a)
  | dict a => exact absurd rfl (h' a)
  | none => simp [S_is_within, fAnd, isaT, fChain]
  | bool b => simp [S_is_within, fAnd, isaT, fChain]
  | str b => simp [S_is_within, fAnd, isaT, fChain]
  | list b => simp [S_is_within, fAnd, isaT, fChain]
  | tuple b => simp [S_is_within, fAnd, isaT, fChain]
/-- what could_be hands back -/
def couldBe (m s t : Int) : PyData :=
  if 0 < t * (m - 1) % (s - 1) then .none
  else if 0 < m * (t * (m - 1) / (s - 1)) % s ∨ (s < m ∧ m * (t * (m - 1) / (s - 1)) / s < m) then .none
  else .tuple [.int (m * (t * (m - 1) / (s - 1)) / s), .int (t * (m - 1) / (s - 1))]
theorem m_could (m s t : Int) (h1 : 2 ≤ m) (h2 : m ≤ 31) (h3 : 2 ≤ s) (h4 : s ≤ m) (h5 : 1 ≤ t) (h6 : t ≤ 200) : F_could_be [.int m, .int s, .int t] = .ok (couldBe m s t) := by
  unfold F_could_be couldBe
  rw [runB3]
  simp only [S_could_be, T_could_be_1, T_could_be_2, T_could_be_3, T_could_be_4, T_could_be_5, S_could_be_1, S_could_be_2, S_could_be_3, S_could_be_4, S_could_be_5, e_Seq, e_If, e_qOr, e_qNot, e_qTru, e_Call, e_Ac, e_A0, e_C, e_Var0, e_VarS, Rs.bind_ok, m_within, e_truB, decide_eq_true h1, decide_eq_true h2, decide_eq_true h3, decide_eq_true h4, decide_eq_true h5, decide_eq_true h6, Bool.and_self, Bool.not_true, Bool.false_eq_true, if_false, e_Nil, e_seqO, e_qVal, e_f2, e_subI,
    e_mulI (show -18446744073709551616 < t by omega) (show t < 18446744073709551616 by omega), e_modI (show 0 < s - 1 by omega), e_gtI, e_bolD, decide_eq_true_eq]
  by_cases c1 : 0 < t * (m - 1) % (s - 1)
  · simp [c1]
  · have hr : (List.replicate (4 - 3) Sl.no) = [Sl.no] := rfl
    rw [hr]
    have hm := e_mulI (a := m) (b := t * (m - 1) / (s - 1)) (by omega) (by omega)
    have h7 := e_modI (a := m * (t * (m - 1) / (s - 1))) (show 0 < s by omega)
    have h8 := e_fdivI (a := m * (t * (m - 1) / (s - 1))) (show 0 < s by omega) (by omega)
    simp only [c1, if_false, e_Set, e_f2, e_Var0, e_VarS, Rs.bind_ok, e_C, e_subI, e_mulI (show -18446744073709551616 < t by omega) (show t < 18446744073709551616 by omega), e_fdivI (show 0 < s - 1 by omega) (show s - 1 < 1073741824 by omega), e_seqO, e_Seq, e_If, List.set_cons_succ, List.set_cons_zero, e_qOr, e_qAnd, e_qVal, hm, h7, h8, e_gtI, e_ltI, e_bolD, decide_eq_true_eq]
    by_cases c2 : 0 < m * (t * (m - 1) / (s - 1)) % s
    · simp [c2]
    · by_cases c3 : s < m
      · by_cases c4 : m * (t * (m - 1) / (s - 1)) / s < m
        · simp [c2, c3, c4]
        · simp [c2, c3, c4, hm, h8, fTup]
      · simp [c2, c3, hm, h8, fTup]
theorem m_could_bad (d1 d2 d3 : PyData) (n1 : ∀ a, d1 ≠ .dict a) (n2 : ∀ a, d2 ≠ .dict a) (n3 : ∀ a, d3 ≠ .dict a)
    (h : (∀ m, d1 = .int m → m < 2 ∨ 31 < m) ∨ ∃ m, d1 = .int m ∧ 2 ≤ m ∧ m ≤ 31 ∧ ((∀ s, d2 = .int s → s < 2 ∨ m < s) ∨ ∃ s, d2 = .int s ∧ 2 ≤ s ∧ s ≤ m ∧ ∀ t, d3 = .int t → t < 1 ∨ 200 < t)) :
    F_could_be [d1, d2, d3] = .ex .badNumber := by
  have key : ∀ (d : PyData) (lo hi : Int), (∀ a, d ≠ .dict a) → (∀ m, d = .int m → m < lo ∨ hi < m) → F_is_within [d, .int lo, .int hi] = .ok (.bool false) := fun d lo hi hd hm => by
    cases d with
    | int a =>
      rw [m_within]
      rcases hm a rfl with z | z
      · rw [decide_eq_false (show ¬ lo ≤ a by omega)]; rfl
      · rw [decide_eq_false (show ¬ a ≤ hi by omega), Bool.and_false]
    | dict a => exact absurd rfl (hd a)
    | none => exact m_within_no _ _ _ (fun _ z => nomatch z) (fun _ z => nomatch z)
    | bool b => exact m_within_no _ _ _ (fun _ z => nomatch z) (fun _ z => nomatch z)
    | str b => exact m_within_no _ _ _ (fun _ z => nomatch z) (fun _ z => nomatch z)
    | list b => exact m_within_no _ _ _ (fun _ z => nomatch z) (fun _ z => nomatch z)
    | tuple b => exact m_within_no _ _ _ (fun _ z => nomatch z) (fun _ z => nomatch z)
  unfold F_could_be
  rw [runB3]
  rcases h with h | ⟨m, rfl, h1, h2, h⟩
  · simp [S_could_be, T_could_be_1, T_could_be_2, T_could_be_3, T_could_be_4, T_could_be_5, S_could_be_1, S_could_be_2, S_could_be_3, S_could_be_4, S_could_be_5, key d1 2 31 n1 h]
  · have e1 : F_is_within [.int m, .int 2, .int 31] = .ok (.bool true) := by
      rw [m_within, decide_eq_true h1, decide_eq_true h2]; rfl
    rcases h with h | ⟨s, rfl, h3, h4, h⟩
    · simp [S_could_be, T_could_be_1, T_could_be_2, T_could_be_3, T_could_be_4, T_could_be_5, S_could_be_1, S_could_be_2, S_could_be_3, S_could_be_4, S_could_be_5, e1, key d2 2 m n2 h]
    · have e2 : F_is_within [.int s, .int 2, .int m] = .ok (.bool true) := by
        rw [m_within, decide_eq_true h3, decide_eq_true h4]; rfl
      simp [S_could_be, T_could_be_1, T_could_be_2, T_could_be_3, T_could_be_4, T_could_be_5, S_could_be_1, S_could_be_2, S_could_be_3, S_could_be_4, S_could_be_5, e1, e2, key d3 1 200 n3 h]
end Bh
set_option maxHeartbeats 4000000
set_option maxRecDepth 10000
namespace Bh
open PySem PySem.Spec L2
theorem eqv_tt : PyData.eqv (.list [.bool true, .bool true]) (.list [.bool true, .bool true]) = true := by decide +kernel
theorem m_told_bad (d1 d2 d3 : PyData) (h : F_could_be [d1, d2, d3] = .ex .badNumber) : F_law_told_k04 [d1, d2, d3] = .ok (.list [.bool true, .bool true]) := by
  unfold F_law_told_k04
  rw [runB3]
  simp [S_law_told_k04, sTry, h]
theorem dIx_L {xs : List PyData} {i : Int} {d : PyData} (h : atI xs i = some d) : dIx (.list xs) (.int i) = .ok d := by
  show atD xs i = _
  unfold atD
  rw [h]
theorem dIx_T {xs : List PyData} {i : Int} {d : PyData} (h : atI xs i = some d) : dIx (.tuple xs) (.int i) = .ok d := by
  show atD xs i = _
  unfold atD
  rw [h]
theorem eqv_pair (a b : Int) : PyData.eqv (.tuple [.int a, .int b]) (.tuple [.int a, .int b]) = true := by
  simp [PyData.eqv, PyData.eqvAll]
theorem shaped_pair (a b : Int) : SeqAt.shaped (.tuple [.int a, .int b]) = true := by
  simp [SeqAt.shaped, PyData.canLay0, PyData.canLayAll0, PyData.depth, PyData.depthAll]
theorem dEq_pair (a b : Int) : dEq (.tuple [.int a, .int b]) (.tuple [.int a, .int b]) = .ok (.bool true) := by
  unfold dEq
  rw [shaped_pair, eqv_pair]
  rfl
theorem tail_ok (m s t : Int) (h1 : 2 ≤ m) (h2 : m ≤ 31) (h3 : 2 ≤ s) (h4 : s ≤ m) (h5 : 1 ≤ t) (h6 : t ≤ 200) (sc : PyData) (a4 a5 a6 a7 a8 a9 : Sl) :
    ((T_law_once_k04_6 [.val sc, .val (.int m), .val (.int s), .val (.int t), a4, a5, a6, a7, a8, a9]).bind outV) = .ok (.bool true) := by
  have g1 := e_mulI (a := t) (b := m - 1) (by omega) (by omega)
  have g2 := e_modI (a := t * (m - 1)) (show 0 < s - 1 by omega)
  have g3 := e_fdivI (a := t * (m - 1)) (show 0 < s - 1 by omega) (by omega)
  have g4 := e_mulI' (a := t * (m - 1) / (s - 1)) (b := m) (by omega) (by omega)
  have g5 := e_modI (a := t * (m - 1) / (s - 1) * m) (show 0 < s by omega)
  have g6 := e_fdivI (a := t * (m - 1) / (s - 1) * m) (show 0 < s by omega) (by omega)
  have cb := m_could m s t h1 h2 h3 h4 h5 h6
  have p1 := Int.emod_nonneg (t * (m - 1)) (show s - 1 ≠ 0 by omega)
  have p2 := Int.emod_nonneg (t * (m - 1) / (s - 1) * m) (show s ≠ 0 by omega)
  have cm : m * (t * (m - 1) / (s - 1)) = t * (m - 1) / (s - 1) * m := Int.mul_comm _ _
  unfold couldBe at cb
  rw [cm] at cb
  simp only [T_law_once_k04_6, T_law_once_k04_7, T_law_once_k04_8, T_law_once_k04_9, T_law_once_k04_10, S_law_once_k04_6, S_law_once_k04_7, S_law_once_k04_8, S_law_once_k04_9, S_law_once_k04_10]
  by_cases c1 : t * (m - 1) % (s - 1) = 0
  · by_cases c2 : t * (m - 1) / (s - 1) * m % s = 0
    · by_cases c3 : s = m
      · subst c3
        rw [if_neg (by omega), if_neg (by omega)] at cb
        simp [g1, g2, g3, g4, g5, g6, e_eqI, c1, c2, cb, fTup, e_is, dIsNone, fAnd, isaT, dEq_pair]
      · by_cases c4 : m ≤ t * (m - 1) / (s - 1) * m / s
        · rw [if_neg (by omega), if_neg (by omega)] at cb
          simp [g1, g2, g3, g4, g5, g6, e_eqI, c1, c2, c3, c4, cb, fTup, e_is, dIsNone, fAnd, isaT, dEq_pair]
        · rw [if_neg (by omega), if_pos (by omega)] at cb
          simp [g1, g2, g3, g4, g5, g6, e_eqI, c1, c2, c3, c4, cb, fTup, e_is, dIsNone]
    · rw [if_neg (by omega), if_pos (by omega)] at cb
      simp [g1, g2, g3, g4, g5, g6, e_eqI, c1, c2, cb, fTup, e_is, dIsNone]
  · rw [if_pos (by omega)] at cb
    simp [g1, g2, g3, e_eqI, c1, cb, e_is, dIsNone]
theorem dx_8 (y : Int) (x0 : Int) : ∃ d : PyData, atI [PyData.none, .bool true, .str ("3" : Str), .int (-1), .int 0, .int 1, .list [.int 2], .int y] (x0 % 8) = some d ∧ (d = .none ∨ d = .bool true ∨ d = .str ("3" : Str) ∨ d = .int (-1) ∨ d = .int 0 ∨ d = .int 1 ∨ d = .list [.int 2] ∨ d = .int y) := by
  rcases (show x0 % 8 = 0 ∨ x0 % 8 = 1 ∨ x0 % 8 = 2 ∨ x0 % 8 = 3 ∨ x0 % 8 = 4 ∨ x0 % 8 = 5 ∨ x0 % 8 = 6 ∨ x0 % 8 = 7 by omega) with h | h | h | h | h | h | h | h <;> rw [h]
  · exact ⟨_, rfl, .inl rfl⟩
  · exact ⟨_, rfl, .inr (.inl rfl)⟩
  · exact ⟨_, rfl, .inr (.inr (.inl rfl))⟩
  · exact ⟨_, rfl, .inr (.inr (.inr (.inl rfl)))⟩
  · exact ⟨_, rfl, .inr (.inr (.inr (.inr (.inl rfl))))⟩
  · exact ⟨_, rfl, .inr (.inr (.inr (.inr (.inr (.inl rfl)))))⟩
  · exact ⟨_, rfl, .inr (.inr (.inr (.inr (.inr (.inr (.inl rfl))))))⟩
  · exact ⟨_, rfl, .inr (.inr (.inr (.inr (.inr (.inr (.inr rfl))))))⟩
theorem i30 (a b c : PyData) : dIx (.list [a, b, c]) (.int 0) = .ok a := rfl
theorem i31 (a b c : PyData) : dIx (.list [a, b, c]) (.int 1) = .ok b := rfl
theorem i32 (a b c : PyData) : dIx (.list [a, b, c]) (.int 2) = .ok c := rfl
theorem m_once_k04 (ns : List Int) : F_law_once_k04 [.list (ns.map .int)] = .ok (.bool true) := by
  unfold F_law_once_k04
  rw [runB1]
  have k0 := m_cell ns 0 (by decide)
  have k1 := m_cell ns 1 (by decide)
  have k2 := m_cell ns 2 (by decide)
  have k3 := m_cell ns 3 (by decide)
  generalize ns.getD (Int.toNat 0) 0 = x0 at k0
  generalize ns.getD (Int.toNat 1) 0 = x1 at k1
  generalize ns.getD (Int.toNat 2) 0 = x2 at k2
  generalize ns.getD (Int.toNat 3) 0 = x3 at k3
  generalize PyData.list (ns.map .int) = sc at *
  have r9 : List.replicate (10 - 1) Sl.no = [.no, .no, .no, .no, .no, .no, .no, .no, .no] := rfl
  rw [r9]
  obtain ⟨m, hm⟩ : ∃ m, m = 2 + x0 % 30 := ⟨_, rfl⟩
  have hm1 : 2 ≤ m := by omega
  have hm2 : m ≤ 31 := by omega
  obtain ⟨s, hs⟩ : ∃ s, s = 2 + x1 % (m - 1) := ⟨_, rfl⟩
  have hs1 : 2 ≤ s := by have := Int.emod_nonneg x1 (show m - 1 ≠ 0 by omega); omega
  have hs2 : s ≤ m := by have := Int.emod_lt_of_pos x1 (show 0 < m - 1 by omega); omega
  obtain ⟨L, hL, hLd, hLp⟩ : ∃ L : Int, atI [PyData.int 9, .int 200] (x3 % 2) = some (.int L) ∧ L ≤ 200 ∧ 0 < L := by
    rcases (show x3 % 2 = 0 ∨ x3 % 2 = 1 by omega) with h | h <;> rw [h]
    · exact ⟨9, rfl, by decide, by decide⟩
    · exact ⟨200, rfl, by decide, by decide⟩
  obtain ⟨t, ht⟩ : ∃ t, t = 1 + x2 % L := ⟨_, rfl⟩
  have ht1 : 1 ≤ t := by have := Int.emod_nonneg x2 (show L ≠ 0 by omega); omega
  have ht2 : t ≤ 200 := by have := Int.emod_lt_of_pos x2 hLp; omega
  have q30 := e_modI (a := x0) (show (0 : Int) < 30 by decide)
  have qm := e_modI (a := x1) (show 0 < m - 1 by omega)
  have qL := e_modI (a := x2) hLp
  have q2 := e_modI (a := x3) (show (0 : Int) < 2 by decide)
  have q4 := e_modI (a := x3) (show (0 : Int) < 4 by decide)
  have q8 := e_modI (a := x0) (show (0 : Int) < 8 by decide)
  have q3 := e_modI (a := x1) (show (0 : Int) < 3 by decide)
  have q3' := e_modI (a := x2) (show (0 : Int) < 3 by decide)
  have q99 := e_modI (a := x2) (show (0 : Int) < 99 by decide)
  have q6 := e_modI (a := x0) (show (0 : Int) < 6 by decide)
  have e0 : ((S_law_once_k04 (.val sc :: [.no, .no, .no, .no, .no, .no, .no, .no, .no])).bind outV) = .ok (.bool true) := by
    have tl := tail_ok m s t hm1 hm2 hs1 hs2 ht1 ht2 sc
    have st3 : ∀ T, (S_law_once_k04_1 [.val sc, .no, .no, .no, .no, .no, .no, .no, .no, .no]).bind (seqO (sSeq S_law_once_k04_2 (sSeq S_law_once_k04_3 T))) = T [.val sc, .val (.int m), .val (.int s), .val (.int t), .no, .no, .no, .no, .no, .no] := fun T => by
      simp [S_law_once_k04_1, S_law_once_k04_2, S_law_once_k04_3, k0, k1, k2, k3, q30, ← hm, qm, ← hs, fLst, q2, dIx_L hL, qL, ← ht]
    have go : S_law_once_k04 [.val sc, .no, .no, .no, .no, .no, .no, .no, .no, .no] = T_law_once_k04_4 [.val sc, .val (.int m), .val (.int s), .val (.int t), .no, .no, .no, .no, .no, .no] := st3 T_law_once_k04_4
    rw [go]
    simp only [T_law_once_k04_4, T_law_once_k04_5, e_Seq]
    rcases (show x3 % 4 = 0 ∨ x3 % 4 = 1 ∨ x3 % 4 = 2 ∨ x3 % 4 = 3 by omega) with z | z | z | z
    · simp only [S_law_once_k04_4, S_law_once_k04_5]
      simp [k3, q4, e_eqI, z]
      exact tl _ _ _ _ _ _
    · simp only [S_law_once_k04_4, S_law_once_k04_5]
      rcases (show x0 % 6 = 0 ∨ x0 % 6 = 1 ∨ x0 % 6 = 2 ∨ x0 % 6 = 3 ∨ x0 % 6 = 4 ∨ x0 % 6 = 5 by omega) with y | y | y | y | y | y
      · have tl := tail_ok 16 6 1 (by decide) (by decide) (by decide) (by decide) (by decide) (by decide) sc
        simp [k3, q4, e_eqI, z, fTup, sAsg, k0, q6, y, dIx, atD, atI, ixN, gsT, gsN]
        exact tl _ _ _ _ _ _
      · have tl := tail_ok 16 10 3 (by decide) (by decide) (by decide) (by decide) (by decide) (by decide) sc
        simp [k3, q4, e_eqI, z, fTup, sAsg, k0, q6, y, dIx, atD, atI, ixN, gsT, gsN]
        exact tl _ _ _ _ _ _
      · have tl := tail_ok 21 6 1 (by decide) (by decide) (by decide) (by decide) (by decide) (by decide) sc
        simp [k3, q4, e_eqI, z, fTup, sAsg, k0, q6, y, dIx, atD, atI, ixN, gsT, gsN]
        exact tl _ _ _ _ _ _
      · have tl := tail_ok 21 15 7 (by decide) (by decide) (by decide) (by decide) (by decide) (by decide) sc
        simp [k3, q4, e_eqI, z, fTup, sAsg, k0, q6, y, dIx, atD, atI, ixN, gsT, gsN]
        exact tl _ _ _ _ _ _
      · have tl := tail_ok 25 10 3 (by decide) (by decide) (by decide) (by decide) (by decide) (by decide) sc
        simp [k3, q4, e_eqI, z, fTup, sAsg, k0, q6, y, dIx, atD, atI, ixN, gsT, gsN]
        exact tl _ _ _ _ _ _
      · have tl := tail_ok 25 15 7 (by decide) (by decide) (by decide) (by decide) (by decide) (by decide) sc
        simp [k3, q4, e_eqI, z, fTup, sAsg, k0, q6, y, dIx, atD, atI, ixN, gsT, gsN]
        exact tl _ _ _ _ _ _
    · simp only [S_law_once_k04_4, S_law_once_k04_5]
      simp [k3, q4, e_eqI, z]
      exact tl _ _ _ _ _ _
    · obtain ⟨y, hy, hy1, hy2⟩ : ∃ y, y = 201 + x2 % 99 ∧ 201 ≤ y ∧ y ≤ 299 := ⟨_, rfl, by omega, by omega⟩
      obtain ⟨d, hd, hdd⟩ := dx_8 y x0
      have hd' := dIx_L hd
      have nd : ∀ a, d ≠ .dict a := fun a e => by
        subst e
        rcases hdd with h | h | h | h | h | h | h | h <;> cases h
      have ni : ∀ i, d = .int i → i = -1 ∨ i = 0 ∨ i = 1 ∨ i = y := fun i e => by
        subst e
        rcases hdd with h | h | h | h | h | h | h | h <;> cases h <;> simp
      have e1 : ∀ (a : PyData), dEq d (.int 1) = .ok (.bool (PyData.eqv d (.int 1))) := fun _ => by
        rcases hdd with h | h | h | h | h | h | h | h <;> subst h <;> first | rfl | kernel_rfl
      have e1 := e1 d
      have e2 : dIsNotT d (.bool true) = .ok (.bool (!dIsT d)) := by cases d <;> rfl
      have told : ∀ (d1 d2 d3 : PyData), F_could_be [d1, d2, d3] = .ex .badNumber → F_law_told_k04 [d1, d2, d3] = .ok (.list [.bool true, .bool true]) := m_told_bad
      have fin : dEq (.list [.bool true, .bool true]) (.list [.bool true, .bool true]) = .ok (.bool true) := by kernel_rfl
      simp only [S_law_once_k04_4]
      rcases (show x1 % 3 = 0 ∨ x1 % 3 = 1 ∨ x1 % 3 = 2 by omega) with w | w | w
      · have b1 : F_could_be [d, .int s, .int t] = .ex .badNumber := m_could_bad _ _ _ nd (fun _ z => nomatch z) (fun _ z => nomatch z) (.inl fun i e => by have := ni i e; omega)
        simp [k3, q4, e_eqI, z, fLst, k2, q99, ← hy, k0, q8, hd', k1, q3, w, sSetItem, ixN, i30, i31, i32, told _ _ _ b1, fin]
      · have b1 : F_could_be [.int m, d, .int t] = .ex .badNumber := m_could_bad _ _ _ (fun _ z => nomatch z) nd (fun _ z => nomatch z) (.inr ⟨m, rfl, hm1, hm2, .inl fun i e => by have := ni i e; omega⟩)
        have b2 : F_could_be [.int m, .int (m + 1), .int t] = .ex .badNumber := m_could_bad _ _ _ (fun _ z => nomatch z) (fun _ z => nomatch z) (fun _ z => nomatch z) (.inr ⟨m, rfl, hm1, hm2, .inl fun i e => by cases e; omega⟩)
        by_cases v : x2 % 3 = 0
        · simp [k3, q4, e_eqI, z, fLst, k2, q99, ← hy, k0, q8, hd', k1, q3, q3', v, w, sSetItem, ixN, i30, i31, i32, told _ _ _ b2, fin]
        · simp [k3, q4, e_eqI, z, fLst, k2, q99, ← hy, k0, q8, hd', k1, q3, q3', v, w, sSetItem, ixN, i30, i31, i32, told _ _ _ b1, fin]
      · have b0 : F_could_be [.int m, .int s, .int 0] = .ex .badNumber := m_could_bad _ _ _ (fun _ z => nomatch z) (fun _ z => nomatch z) (fun _ z => nomatch z) (.inr ⟨m, rfl, hm1, hm2, .inr ⟨s, rfl, hs1, hs2, fun i e => by cases e; omega⟩⟩)
        by_cases v : d = .int 1
        · subst v
          simp [k3, q4, e_eqI, z, fLst, k2, q99, ← hy, k0, q8, hd', k1, q3, w, sSetItem, ixN, i30, i31, i32, (show PyData.eqv (.int 1) (.int 1) = true from rfl), e1, e2, dIsT, told _ _ _ b0, fin]
        · have b1 : F_could_be [.int m, .int s, d] = .ex .badNumber := m_could_bad _ _ _ (fun _ z => nomatch z) (fun _ z => nomatch z) nd (.inr ⟨m, rfl, hm1, hm2, .inr ⟨s, rfl, hs1, hs2, fun i e => by
            have h1 := ni i e
            have h2 : i ≠ 1 := fun z => v (z ▸ e)
            omega⟩⟩)
          have e3 : PyData.eqv d (.int 1) = false ∨ dIsT d = true := by
            rcases hdd with h | h | h | h | h | h | h | h <;> subst h <;> first | exact .inl rfl | exact .inr rfl | exact absurd rfl v | skip
            refine .inl ?_
            show (y == 1) = false
            exact beq_eq_false_iff_ne.mpr (by omega)
          rcases e3 with e3 | e3
          · simp [k3, q4, e_eqI, z, fLst, k2, q99, ← hy, k0, q8, hd', k1, q3, w, sSetItem, ixN, i30, i31, i32, e1, e2, e3, told _ _ _ b1, fin]
          · by_cases e4 : PyData.eqv d (.int 1) = true
            · simp [k3, q4, e_eqI, z, fLst, k2, q99, ← hy, k0, q8, hd', k1, q3, w, sSetItem, ixN, i30, i31, i32, e1, e2, e3, e4, told _ _ _ b1, fin]
            · simp [k3, q4, e_eqI, z, fLst, k2, q99, ← hy, k0, q8, hd', k1, q3, w, sSetItem, ixN, i30, i31, i32, e1, e2, e3, e4, told _ _ _ b1, fin]
  exact e0
theorem lc_ints_add (k : Int) (ns : List Int) (ρ : Ev) (a : Sl) : lcL (gs1 1) qYes (f2 dAdd (fVar 1) (fC (.int k))) [a, .no] (ns.map .int) = .ok ((ns.map (· + k)).map .int) := by
  induction ns with
  | nil => rfl
  | cons x xs ih =>
    rw [List.map_cons]
    unfold lcL
    simp [gs1, qYes, ih]
theorem law_k04 (ns : List Int) (h : ns.length ≤ 63) : F_law_k04 [.list (ns.map .int)] = .ok (.bool true) := by
  unfold F_law_k04
  rw [runB1]
  have hz : (ns.map PyData.int).length ≤ 16777216 := by rw [List.length_map]; omega
  have h2 := lc_ints_add 1 ns [] (.val (.list (ns.map .int)))
  simp only [S_law_k04, e_Ret, fAnd, e_Call, e_Ac, e_A0, e_Var0, Rs.bind_ok, m_once_k04, e_New, fLcN, iSeq, seqD, if_pos hz]
  show (((((lcL (gs1 1) qYes (f2 dAdd (fVar 1) (fC (.int 1))) [.val (.list (ns.map .int)), .no] (ns.map .int)).bind _).bind _).bind _).bind _).bind _ = _
  rw [h2]
  simp only [Rs.bind_ok, m_once_k04, e_outrt]
end Bh
set_option maxHeartbeats 4000000
namespace Bh.K04
open PySem PySem.Spec L2 Bh
def topS (i : Nat) : Stmt := PySem.Challenge.pw_blockhall_k04_numbers_that_could_be.main.body.getD i (.Pass ⟨0, 0, 0, 0⟩)
structure Ad where
  a_is_within : Addr
  d_is_within : FuncData
  a_could_be : Addr
  d_could_be : FuncData
  a__law_cell : Addr
  d__law_cell : FuncData
  a__law_told : Addr
  d__law_told : FuncData
  a__law_once : Addr
  d__law_once : FuncData
  a_law : Addr
  d_law : FuncData
  t_MOST_BLOCKS : Tok
  t_MOST_POINTS : Tok
structure Txt (K : PySem.W.Frag) (mg : Str → Option Value) (cl : Cl → Addr) (A : Ad) : Prop where
  f_is_within : Fun K "is_within" "is_within" (topS 6) A.a_is_within A.d_is_within
  g_is_within : mg "is_within" = some (.ref A.a_is_within)
  b_is_within : Binds K A.d_is_within ["thing", "low", "high"] []
  f_could_be : Fun K "could_be" "could_be" (topS 8) A.a_could_be A.d_could_be
  g_could_be : mg "could_be" = some (.ref A.a_could_be)
  b_could_be : Binds K A.d_could_be ["many", "size", "meet"] []
  f__law_cell : Fun K "_law_cell" "_law_cell" (topS 10) A.a__law_cell A.d__law_cell
  g__law_cell : mg "_law_cell" = some (.ref A.a__law_cell)
  b__law_cell : Binds K A.d__law_cell ["script", "k"] []
  f__law_told : Fun K "_law_told" "_law_told" (topS 11) A.a__law_told A.d__law_told
  g__law_told : mg "_law_told" = some (.ref A.a__law_told)
  b__law_told : Binds K A.d__law_told ["many", "size", "meet"] []
  f__law_once : Fun K "_law_once" "_law_once" (topS 12) A.a__law_once A.d__law_once
  g__law_once : mg "_law_once" = some (.ref A.a__law_once)
  b__law_once : Binds K A.d__law_once ["script"] []
  f_law : Fun K "law" "law" (topS 13) A.a_law A.d_law
  g_law : mg "law" = some (.ref A.a_law)
  b_law : Binds K A.d_law ["script"] []
  n_ValueError : mg "ValueError" = none
  n_bool : mg "bool" = none
  n_int : mg "int" = none
  n_isinstance : mg "isinstance" = none
  n_len : mg "len" = none
  n_tuple : mg "tuple" = none
  k_BadNumber : ClsOk K mg "BadNumber" (cl .badNumber)
  k_BlockError : ClsOk K mg "BlockError" (cl .blockError)
  c_MOST_BLOCKS : mg "MOST_BLOCKS" = some (.int 200 A.t_MOST_BLOCKS)
  c_MOST_POINTS : mg "MOST_POINTS" = some (.int 31 A.t_MOST_POINTS)
  e_BadNumber : ExcC K (cl .badNumber)
  i_BadNumber_BadNumber : PySem.W.kitOne K (.ref (cl .badNumber)) (.ref (cl .badNumber)) = some true
  i_BadNumber_ValueError : PySem.W.kitOne K (.ref (cl .badNumber)) (.type "ValueError") = some true
  x_BadNumber_BlockError : PySem.W.exmOne K (.ref (cl .badNumber)) (.ref (cl .blockError)) = some true
section
variable {P : Program} {w : World} {K : PySem.W.Frag} {mg : Str → Option Value} {base : Heap} {cl : Cl → Addr} {A : Ad}
theorem sc_is_within : FnScope ["thing", "low", "high"] ["thing", "low", "high"] (defScope (topS 6)) := ⟨rfl, rfl, rfl, by decide +kernel, rfl, by decide +kernel, by decide +kernel⟩
theorem ok_is_within (T : Txt K mg cl A) : FnOk P w K mg base (L2.CX P w) 1 A.a_is_within A.d_is_within ["thing", "low", "high"] (dSp K cl 3 F_is_within) :=
  fn_dataF (S := S_is_within) T.f_is_within sc_is_within rfl rfl rfl fun cdv A' outer s H E hr =>
    (ds_one (ds_ret (de_and (de_isi (pe_bltn (by rfl) T.n_int boot_int rfl) isi_int (by rfl) T.n_isinstance (cs (de_var (pv 0)))) (de_and (de_not (cs (de_isi (pe_bltn (by rfl) T.n_bool boot_bool rfl) isi_bool (by rfl) T.n_isinstance (cs (de_var (pv 0)))))) (de_one (de_chain cd_le cd_le (cs (de_var (pv 1))) (cs (de_var (pv 0))) (cs (de_var (pv 2)))))))))

theorem sc_could_be : FnScope ["many", "size", "meet", "each"] ["many", "size", "meet"] (defScope (topS 8)) := ⟨rfl, rfl, rfl, by decide +kernel, rfl, by decide +kernel, by decide +kernel⟩
theorem ok_could_be (T : Txt K mg cl A) : FnOk P w K mg base (L2.CX P w) 2 A.a_could_be A.d_could_be ["many", "size", "meet"] (dSp K cl 3 F_could_be) :=
  fn_dataF (S := S_could_be) T.f_could_be sc_could_be rfl rfl rfl fun cdv A' outer s H E hr =>
    (ds_cons (ds_if (PW.pt (dw_or (dt_not (dt_tru (cs (de_call (ok_is_within T) (hr.mono (by decide)) (takes_of rfl rfl rfl rfl) (by rfl) T.g_is_within T.f_is_within.kp T.b_is_within (dn_cons (de_var (pv 0)) (dn_cons de_int (dn_cons (de_globI T.c_MOST_POINTS) dn_nil))))))) (dw_or (dt_not (dt_tru (cs (de_call (ok_is_within T) (hr.mono (by decide)) (takes_of rfl rfl rfl rfl) (by rfl) T.g_is_within T.f_is_within.kp T.b_is_within (dn_cons (de_var (pv 1)) (dn_cons de_int (dn_cons (de_var (pv 0)) dn_nil))))))) (dw_or1 (dt_not (dt_tru (cs (de_call (ok_is_within T) (hr.mono (by decide)) (takes_of rfl rfl rfl rfl) (by rfl) T.g_is_within T.f_is_within.kp T.b_is_within (dn_cons (de_var (pv 2)) (dn_cons de_int (dn_cons (de_globI T.c_MOST_BLOCKS) dn_nil))))))))))) (ds_one (ds_raise (k := .badNumber) rfl (takes_of rfl rfl rfl rfl) T.k_BadNumber)) ds_nil)
    (ds_cons (ds_if (dt_cmp cd_gt (cs (de_mod (cs (de_mul (cs (de_var (pv 2))) (cs (de_sub (cs (de_var (pv 0))) (cs de_int))))) (cs (de_sub (cs (de_var (pv 1))) (cs de_int))))) (cs de_int) (nomark _)) (ds_one (ds_ret de_non)) ds_nil)
    (ds_cons (ds_set (i := 3) sc_could_be.nd rfl (by first | exact Or.inl rfl | exact Or.inr rfl) (de_fdiv (cs (de_mul (cs (de_var (pv 2))) (cs (de_sub (cs (de_var (pv 0))) (cs de_int))))) (cs (de_sub (cs (de_var (pv 1))) (cs de_int)))))
    (ds_cons (ds_if (PW.pt (dw_or (dt_cmp cd_gt (cs (de_mod (cs (de_mul (cs (de_var (pv 0))) (cs (de_var (pv 3))))) (cs (de_var (pv 1))))) (cs de_int) (nomark _)) (dw_or1 (PW.pt (dw_and (dt_cmp cd_lt (cs (de_var (pv 1))) (cs (de_var (pv 0))) (nomark _)) (dw_and1 (dt_cmp cd_lt (cs (de_fdiv (cs (de_mul (cs (de_var (pv 0))) (cs (de_var (pv 3))))) (cs (de_var (pv 1))))) (cs (de_var (pv 0))) (nomark _)))))))) (ds_one (ds_ret de_non)) ds_nil)
    (ds_one (ds_ret (de_tup (dc_cons (de_fdiv (cs (de_mul (cs (de_var (pv 0))) (cs (de_var (pv 3))))) (cs (de_var (pv 1)))) (dc_cons (de_var (pv 3)) dc_nil)))))))))

theorem sc_law_cell : FnScope ["script", "k"] ["script", "k"] (defScope (topS 10)) := ⟨rfl, rfl, rfl, by decide +kernel, rfl, by decide +kernel, by decide +kernel⟩
theorem ok_law_cell (T : Txt K mg cl A) : FnOk P w K mg base (L2.CX P w) 1 A.a__law_cell A.d__law_cell ["script", "k"] (dSp K cl 2 F_law_cell) :=
  fn_dataF (S := S_law_cell) T.f__law_cell sc_law_cell rfl rfl rfl fun cdv A' outer s H E hr =>
    (ds_cons (ds_if (dt_cmp cd_lt (cs (de_var (pv 1))) (cs (de_callB cl_len (by rfl) T.n_len boot_len (da_cons (cs (de_var (pv 0))) da_nil))) (nomark _)) (ds_one (ds_ret (de_ix (cs (de_var (pv 0))) (cs (de_var (pv 1)))))) ds_nil)
    (ds_one (ds_ret de_int)))

theorem sc_law_told_k04 : FnScope ["many", "size", "meet", "e"] ["many", "size", "meet"] (defScope (topS 11)) := ⟨rfl, rfl, rfl, by decide +kernel, rfl, by decide +kernel, by decide +kernel⟩
theorem ok_law_told_k04 (T : Txt K mg cl A) : FnOk P w K mg base (L2.CX P w) 3 A.a__law_told A.d__law_told ["many", "size", "meet"] (dSp K cl 3 F_law_told_k04) :=
  fn_dataF (S := S_law_told_k04) T.f__law_told sc_law_told_k04 rfl rfl rfl fun cdv A' outer s H E hr =>
    (ds_one (ds_tryAs (cl := cl) (cs := [.badNumber]) (R := (fun c => match c with | .badNumber => .list [.bool true, .bool true] | _ => .none)) (i := 3) rfl rfl sc_law_told_k04.nd rfl rfl ⟨rfl, by decide, .inl T.k_BlockError.g⟩ (forall_cons T.x_BadNumber_BlockError forall_nil) rfl
    (fun W pn xe tk hpo => (ds_one (ds_ret (de_call (ok_could_be T) (hr.mono (by decide)) tk (by rfl) T.g_could_be T.f_could_be.kp T.b_could_be (dn_cons (de_var (pv 0)) (dn_cons (de_var (pv 1)) (dn_cons (de_var (pv 2)) dn_nil)))))))
    (forall_cons (fun a oe pn hz hf => (su_ret (bs := [true, true]) (ia_cons T.e_BadNumber hz hf (pv 3) (pe_glob (v := .ref _) (by rfl) T.k_BadNumber.g rfl) (fun _ r => r) T.i_BadNumber_BadNumber (by rfl) T.n_isinstance (ia_cons T.e_BadNumber hz hf (pv 3) (pe_bltn (v := .ty _) (by rfl) T.n_ValueError (by decide +kernel) rfl) (fun _ r => r) T.i_BadNumber_ValueError (by rfl) T.n_isinstance ia_nil)) (by decide))) forall_nil)))

theorem sc_law_once_k04 : FnScope ["script", "many", "size", "meet", "due", "found", "odd", "way", "some", "each"] ["script"] (defScope (topS 12)) := ⟨rfl, rfl, rfl, by decide +kernel, rfl, by decide +kernel, by decide +kernel⟩
theorem ok_law_once_k04 (T : Txt K mg cl A) : FnOk P w K mg base (L2.CX P w) 4 A.a__law_once A.d__law_once ["script"] (dSp K cl 1 F_law_once_k04) :=
  fn_dataF (S := S_law_once_k04) T.f__law_once sc_law_once_k04 rfl rfl rfl fun cdv A' outer s H E hr =>
    (ds_cons (ds_set (i := 1) sc_law_once_k04.nd rfl (by first | exact Or.inl rfl | exact Or.inr rfl) (de_add (cs de_int) (cs (de_mod (cs (de_call (ok_law_cell T) (hr.mono (by decide)) (takes_of rfl rfl rfl rfl) (by rfl) T.g__law_cell T.f__law_cell.kp T.b__law_cell (dn_cons (de_var (pv 0)) (dn_cons de_int dn_nil)))) (cs de_int)))))
    (ds_cons (ds_set (i := 2) sc_law_once_k04.nd rfl (by first | exact Or.inl rfl | exact Or.inr rfl) (de_add (cs de_int) (cs (de_mod (cs (de_call (ok_law_cell T) (hr.mono (by decide)) (takes_of rfl rfl rfl rfl) (by rfl) T.g__law_cell T.f__law_cell.kp T.b__law_cell (dn_cons (de_var (pv 0)) (dn_cons de_int dn_nil)))) (cs (de_sub (cs (de_var (pv 1))) (cs de_int)))))))
    (ds_cons (ds_set (i := 3) sc_law_once_k04.nd rfl (by first | exact Or.inl rfl | exact Or.inr rfl) (de_add (cs de_int) (cs (de_mod (cs (de_call (ok_law_cell T) (hr.mono (by decide)) (takes_of rfl rfl rfl rfl) (by rfl) T.g__law_cell T.f__law_cell.kp T.b__law_cell (dn_cons (de_var (pv 0)) (dn_cons de_int dn_nil)))) (cs (de_ix (cs (de_lst (dc_cons de_int (dc_cons de_int dc_nil)))) (cs (de_mod (cs (de_call (ok_law_cell T) (hr.mono (by decide)) (takes_of rfl rfl rfl rfl) (by rfl) T.g__law_cell T.f__law_cell.kp T.b__law_cell (dn_cons (de_var (pv 0)) (dn_cons de_int dn_nil)))) (cs de_int)))))))))
    (ds_cons (ds_if (dt_cmp (cd_eq hr.units) (cs (de_mod (cs (de_call (ok_law_cell T) (hr.mono (by decide)) (takes_of rfl rfl rfl rfl) (by rfl) T.g__law_cell T.f__law_cell.kp T.b__law_cell (dn_cons (de_var (pv 0)) (dn_cons de_int dn_nil)))) (cs de_int))) (cs de_int) (nomark _)) (ds_cons (ds_set (i := 6) sc_law_once_k04.nd rfl (by first | exact Or.inl rfl | exact Or.inr rfl) (de_ix (cs (de_lst (dc_cons de_non (dc_cons de_bl (dc_cons de_str (dc_cons (de_neg (cs de_int)) (dc_cons de_int (dc_cons de_int (dc_cons (de_lst (dc_cons de_int dc_nil)) (dc_cons (de_add (cs de_int) (cs (de_mod (cs (de_call (ok_law_cell T) (hr.mono (by decide)) (takes_of rfl rfl rfl rfl) (by rfl) T.g__law_cell T.f__law_cell.kp T.b__law_cell (dn_cons (de_var (pv 0)) (dn_cons de_int dn_nil)))) (cs de_int)))) dc_nil)))))))))) (cs (de_mod (cs (de_call (ok_law_cell T) (hr.mono (by decide)) (takes_of rfl rfl rfl rfl) (by rfl) T.g__law_cell T.f__law_cell.kp T.b__law_cell (dn_cons (de_var (pv 0)) (dn_cons de_int dn_nil)))) (cs de_int)))))
    (ds_cons (ds_set (i := 7) sc_law_once_k04.nd rfl (by first | exact Or.inl rfl | exact Or.inr rfl) (de_mod (cs (de_call (ok_law_cell T) (hr.mono (by decide)) (takes_of rfl rfl rfl rfl) (by rfl) T.g__law_cell T.f__law_cell.kp T.b__law_cell (dn_cons (de_var (pv 0)) (dn_cons de_int dn_nil)))) (cs de_int)))
    (ds_cons (ds_if (PW.pt (dw_and (dt_cmp (cd_eq hr.units) (cs (de_var (pv 7))) (cs de_int) (nomark _)) (dw_and (dt_cmp (cd_eq hr.units) (cs (de_var (pv 6))) (cs de_int) (nomark _)) (dw_and1 (dt_cmp cd_isnotT (cs (de_var (pv 6))) (cs de_bl) (nomark _)))))) (ds_one (ds_set (i := 6) sc_law_once_k04.nd rfl (by first | exact Or.inl rfl | exact Or.inr rfl) de_int)) ds_nil)
    (ds_cons (ds_setOwn (i := 8) sc_law_once_k04.nd rfl (by first | exact Or.inl rfl | exact Or.inr rfl) (dc_cons (de_var (pv 1)) (dc_cons (de_var (pv 2)) (dc_cons (de_var (pv 3)) dc_nil))) (ln_le (ln_cons (ln_cons (ln_cons ln_nil))) (by decide)))
    (ds_cons (ds_setItem (i := 8) (ps_asg (de_var (pv 6)) (pg_sub (pv 8) (cs (de_var (pv 7))) set_list)))
    (ds_cons (ds_if (PW.pt (dw_and (dt_cmp (cd_eq hr.units) (cs (de_var (pv 7))) (cs de_int) (nomark _)) (dw_and1 (dt_cmp (cd_eq hr.units) (cs (de_mod (cs (de_call (ok_law_cell T) (hr.mono (by decide)) (takes_of rfl rfl rfl rfl) (by rfl) T.g__law_cell T.f__law_cell.kp T.b__law_cell (dn_cons (de_var (pv 0)) (dn_cons de_int dn_nil)))) (cs de_int))) (cs de_int) (nomark _))))) (ds_one (ds_setItem (i := 8) (ps_asg (de_add (cs (de_var (pv 1))) (cs de_int)) (pg_sub (pv 8) (cs de_int) set_list)))) ds_nil)
    (ds_one (ds_ret (de_cmp (cd_eq hr.units) (cs (de_call (ok_law_told_k04 T) (hr.mono (by decide)) (takes_of rfl rfl rfl rfl) (by rfl) T.g__law_told T.f__law_told.kp T.b__law_told (dn_cons (de_ix (hs_var (pv 8)) (cs de_int)) (dn_cons (de_ix (hs_var (pv 8)) (cs de_int)) (dn_cons (de_ix (hs_var (pv 8)) (cs de_int)) dn_nil))))) (cs (de_lst (dc_cons de_bl (dc_cons de_bl dc_nil)))) (nomark _)))))))))) ds_nil)
    (ds_cons (ds_if (dt_cmp (cd_eq hr.units) (cs (de_mod (cs (de_call (ok_law_cell T) (hr.mono (by decide)) (takes_of rfl rfl rfl rfl) (by rfl) T.g__law_cell T.f__law_cell.kp T.b__law_cell (dn_cons (de_var (pv 0)) (dn_cons de_int dn_nil)))) (cs de_int))) (cs de_int) (nomark _)) (ds_cons (ds_set (i := 8) sc_law_once_k04.nd rfl (by first | exact Or.inl rfl | exact Or.inr rfl) (de_tup (dc_cons (de_tup (dc_cons de_int (dc_cons de_int (dc_cons de_int dc_nil)))) (dc_cons (de_tup (dc_cons de_int (dc_cons de_int (dc_cons de_int dc_nil)))) (dc_cons (de_tup (dc_cons de_int (dc_cons de_int (dc_cons de_int dc_nil)))) (dc_cons (de_tup (dc_cons de_int (dc_cons de_int (dc_cons de_int dc_nil)))) (dc_cons (de_tup (dc_cons de_int (dc_cons de_int (dc_cons de_int dc_nil)))) (dc_cons (de_tup (dc_cons de_int (dc_cons de_int (dc_cons de_int dc_nil)))) dc_nil))))))))
    (ds_one (ds_asg (de_ix (hs_var (pv 8)) (cs (de_mod (cs (de_call (ok_law_cell T) (hr.mono (by decide)) (takes_of rfl rfl rfl rfl) (by rfl) T.g__law_cell T.f__law_cell.kp T.b__law_cell (dn_cons (de_var (pv 0)) (dn_cons de_int dn_nil)))) (cs de_int)))) (pg_tup rfl (pgs_cons (pg_name (i := 1) sc_law_once_k04.nd rfl (by first | exact Or.inl rfl | exact Or.inr rfl)) (pgs_cons (pg_name (i := 2) sc_law_once_k04.nd rfl (by first | exact Or.inl rfl | exact Or.inr rfl)) (pgs_cons (pg_name (i := 3) sc_law_once_k04.nd rfl (by first | exact Or.inl rfl | exact Or.inr rfl)) pgs_nil)))) (gok_tup _ 3 [1, 2, 3] rfl)))) ds_nil)
    (ds_cons (ds_set (i := 4) sc_law_once_k04.nd rfl (by first | exact Or.inl rfl | exact Or.inr rfl) de_non)
    (ds_cons (ds_if (dt_cmp (cd_eq hr.units) (cs (de_mod (cs (de_mul (cs (de_var (pv 3))) (cs (de_sub (cs (de_var (pv 1))) (cs de_int))))) (cs (de_sub (cs (de_var (pv 2))) (cs de_int))))) (cs de_int) (nomark _)) (ds_cons (ds_set (i := 9) sc_law_once_k04.nd rfl (by first | exact Or.inl rfl | exact Or.inr rfl) (de_fdiv (cs (de_mul (cs (de_var (pv 3))) (cs (de_sub (cs (de_var (pv 1))) (cs de_int))))) (cs (de_sub (cs (de_var (pv 2))) (cs de_int)))))
    (ds_one (ds_if (PW.pt (dw_and (dt_cmp (cd_eq hr.units) (cs (de_mod (cs (de_mul (cs (de_var (pv 9))) (cs (de_var (pv 1))))) (cs (de_var (pv 2))))) (cs de_int) (nomark _)) (dw_and1 (PW.pt (dw_or (dt_cmp (cd_eq hr.units) (cs (de_var (pv 2))) (cs (de_var (pv 1))) (nomark _)) (dw_or1 (dt_cmp cd_ge (cs (de_fdiv (cs (de_mul (cs (de_var (pv 9))) (cs (de_var (pv 1))))) (cs (de_var (pv 2))))) (cs (de_var (pv 1))) (nomark _)))))))) (ds_one (ds_set (i := 4) sc_law_once_k04.nd rfl (by first | exact Or.inl rfl | exact Or.inr rfl) (de_tup (dc_cons (de_fdiv (cs (de_mul (cs (de_var (pv 9))) (cs (de_var (pv 1))))) (cs (de_var (pv 2)))) (dc_cons (de_var (pv 9)) dc_nil))))) ds_nil))) ds_nil)
    (ds_cons (ds_set (i := 5) sc_law_once_k04.nd rfl (by first | exact Or.inl rfl | exact Or.inr rfl) (de_call (ok_could_be T) (hr.mono (by decide)) (takes_of rfl rfl rfl rfl) (by rfl) T.g_could_be T.f_could_be.kp T.b_could_be (dn_cons (de_var (pv 1)) (dn_cons (de_var (pv 2)) (dn_cons (de_var (pv 3)) dn_nil)))))
    (ds_cons (ds_if (dt_cmp cd_is (cs (de_var (pv 4))) (cs de_non) (nomark _)) (ds_one (ds_ret (de_cmp cd_is (cs (de_var (pv 5))) (cs de_non) (nomark _)))) ds_nil)
    (ds_one (ds_ret (de_and (de_isi (pe_bltn (by rfl) T.n_tuple boot_tuple rfl) isi_tuple (by rfl) T.n_isinstance (cs (de_var (pv 5)))) (de_one (de_cmp (cd_eq hr.units) (cs (de_var (pv 5))) (cs (de_var (pv 4))) (nomark _)))))))))))))))

theorem sc_law_k04 : FnScope ["script", "one"] ["script"] (defScope (topS 13)) := ⟨rfl, rfl, rfl, by decide +kernel, rfl, by decide +kernel, by decide +kernel⟩
theorem ok_law_k04 (T : Txt K mg cl A) : FnOk P w K mg base (L2.CX P w) 5 A.a_law A.d_law ["script"] (dSp K cl 1 F_law_k04) :=
  fn_dataF (S := S_law_k04) T.f_law sc_law_k04 rfl rfl rfl fun cdv A' outer s H E hr =>
    (ds_one (ds_ret (de_and (de_call (ok_law_once_k04 T) (hr.mono (by decide)) (takes_of rfl rfl rfl rfl) (by rfl) T.g__law_once T.f__law_once.kp T.b__law_once (dn_cons (de_var (pv 0)) dn_nil)) (de_one (de_call (ok_law_once_k04 T) (hr.mono (by decide)) (takes_of rfl rfl rfl rfl) (by rfl) T.g__law_once T.f__law_once.kp T.b__law_once (dn_cons (nw (de_lc (cl := cl) rfl sc_law_k04.nd (di_seq (de_var (pv 0))) (blkOk_by (own := [("one", 1)]) (by kernel_rfl)) (gok_name _ 1) (fun _ _ _ _ _ => (pg_name (i := 1) sc_law_k04.nd rfl (by first | exact Or.inl rfl | exact Or.inr rfl))) (fun _ _ _ _ _ => dts_nil) (fun _ _ _ _ _ => (de_add (cs (de_var (pv 1))) (cs de_int))))) dn_nil))))))

end
end Bh.K04
set_option maxHeartbeats 4000000
namespace Bh.K04
open PySem PySem.Spec L2 Bh
theorem all_mk {K : PySem.W.Frag} {h : Heap} {mg : Str → Option Value} {fa : Addr} (X : K.In h) (G : h.Ns mainGlobals mg) (hfa : mg "law" = some (.ref fa))
    {f_is_within : Addr} {od_is_within an_is_within : Option Addr} {sl_is_within : Array (Option Value)} {oc_is_within kV_is_within dc_is_within pm_is_within cd_is_within ct_is_within : Value} {f_could_be : Addr} {od_could_be an_could_be : Option Addr} {sl_could_be : Array (Option Value)} {oc_could_be kV_could_be dc_could_be pm_could_be cd_could_be ct_could_be : Value} {f__law_cell : Addr} {od__law_cell an__law_cell : Option Addr} {sl__law_cell : Array (Option Value)} {oc__law_cell kV__law_cell dc__law_cell pm__law_cell cd__law_cell ct__law_cell : Value} {f__law_told : Addr} {od__law_told an__law_told : Option Addr} {sl__law_told : Array (Option Value)} {oc__law_told kV__law_told dc__law_told pm__law_told cd__law_told ct__law_told : Value} {f__law_once : Addr} {od__law_once an__law_once : Option Addr} {sl__law_once : Array (Option Value)} {oc__law_once kV__law_once dc__law_once pm__law_once cd__law_once ct__law_once : Value} {f_law : Addr} {od_law an_law : Option Addr} {sl_law : Array (Option Value)} {oc_law kV_law dc_law pm_law cd_law ct_law : Value} {C_BadNumber : Addr} {C_BlockError : Addr} {t_MOST_BLOCKS : Tok} {t_MOST_POINTS : Tok}
    (a_is_within : PySem.W.nsIn K mainGlobals "is_within" = some (some (.ref f_is_within)))
    (l_is_within : K.lookup f_is_within = some ⟨oc_is_within, od_is_within, .func (PySem.W.fnOf "is_within" "is_within" (defArgs (topS 6)) (defBody (topS 6)) (defScope (topS 6)) .none kV_is_within dc_is_within pm_is_within an_is_within cd_is_within ct_is_within), sl_is_within⟩)
    (c_is_within : PySem.W.codeIn K cd_is_within "is_within" = true)
    (k_is_within : PySem.W.keepIn K (.ref f_is_within) = true)
    (a_could_be : PySem.W.nsIn K mainGlobals "could_be" = some (some (.ref f_could_be)))
    (l_could_be : K.lookup f_could_be = some ⟨oc_could_be, od_could_be, .func (PySem.W.fnOf "could_be" "could_be" (defArgs (topS 8)) (defBody (topS 8)) (defScope (topS 8)) .none kV_could_be dc_could_be pm_could_be an_could_be cd_could_be ct_could_be), sl_could_be⟩)
    (c_could_be : PySem.W.codeIn K cd_could_be "could_be" = true)
    (k_could_be : PySem.W.keepIn K (.ref f_could_be) = true)
    (a__law_cell : PySem.W.nsIn K mainGlobals "_law_cell" = some (some (.ref f__law_cell)))
    (l__law_cell : K.lookup f__law_cell = some ⟨oc__law_cell, od__law_cell, .func (PySem.W.fnOf "_law_cell" "_law_cell" (defArgs (topS 10)) (defBody (topS 10)) (defScope (topS 10)) .none kV__law_cell dc__law_cell pm__law_cell an__law_cell cd__law_cell ct__law_cell), sl__law_cell⟩)
    (c__law_cell : PySem.W.codeIn K cd__law_cell "_law_cell" = true)
    (k__law_cell : PySem.W.keepIn K (.ref f__law_cell) = true)
    (a__law_told : PySem.W.nsIn K mainGlobals "_law_told" = some (some (.ref f__law_told)))
    (l__law_told : K.lookup f__law_told = some ⟨oc__law_told, od__law_told, .func (PySem.W.fnOf "_law_told" "_law_told" (defArgs (topS 11)) (defBody (topS 11)) (defScope (topS 11)) .none kV__law_told dc__law_told pm__law_told an__law_told cd__law_told ct__law_told), sl__law_told⟩)
    (c__law_told : PySem.W.codeIn K cd__law_told "_law_told" = true)
    (k__law_told : PySem.W.keepIn K (.ref f__law_told) = true)
    (a__law_once : PySem.W.nsIn K mainGlobals "_law_once" = some (some (.ref f__law_once)))
    (l__law_once : K.lookup f__law_once = some ⟨oc__law_once, od__law_once, .func (PySem.W.fnOf "_law_once" "_law_once" (defArgs (topS 12)) (defBody (topS 12)) (defScope (topS 12)) .none kV__law_once dc__law_once pm__law_once an__law_once cd__law_once ct__law_once), sl__law_once⟩)
    (c__law_once : PySem.W.codeIn K cd__law_once "_law_once" = true)
    (k__law_once : PySem.W.keepIn K (.ref f__law_once) = true)
    (a_law : PySem.W.nsIn K mainGlobals "law" = some (some (.ref f_law)))
    (l_law : K.lookup f_law = some ⟨oc_law, od_law, .func (PySem.W.fnOf "law" "law" (defArgs (topS 13)) (defBody (topS 13)) (defScope (topS 13)) .none kV_law dc_law pm_law an_law cd_law ct_law), sl_law⟩)
    (c_law : PySem.W.codeIn K cd_law "law" = true)
    (k_law : PySem.W.keepIn K (.ref f_law) = true)
    (n_ValueError : PySem.W.nsIn K mainGlobals "ValueError" = some none)
    (n_bool : PySem.W.nsIn K mainGlobals "bool" = some none)
    (n_int : PySem.W.nsIn K mainGlobals "int" = some none)
    (n_isinstance : PySem.W.nsIn K mainGlobals "isinstance" = some none)
    (n_len : PySem.W.nsIn K mainGlobals "len" = some none)
    (n_tuple : PySem.W.nsIn K mainGlobals "tuple" = some none)
    (kg_BadNumber : PySem.W.nsIn K mainGlobals "BadNumber" = some (some (.ref C_BadNumber)))
    (ki_BadNumber : PySem.W.excIn K C_BadNumber [.type "ValueError", .type "Exception", .type "BaseException", .type "object"] "ValueError.__new__" = true)
    (kk_BadNumber : PySem.W.keepIn K (.ref C_BadNumber) = true)
    (kb_BadNumber : PySem.W.subIn K (.ref C_BadNumber) (.type "BaseException") = some true)
    (kt_BadNumber : PySem.W.typeIn K (.ref C_BadNumber) = some (.type "type"))
    (kg_BlockError : PySem.W.nsIn K mainGlobals "BlockError" = some (some (.ref C_BlockError)))
    (ki_BlockError : PySem.W.excIn K C_BlockError [.type "ValueError", .type "Exception", .type "BaseException", .type "object"] "ValueError.__new__" = true)
    (kk_BlockError : PySem.W.keepIn K (.ref C_BlockError) = true)
    (kb_BlockError : PySem.W.subIn K (.ref C_BlockError) (.type "BaseException") = some true)
    (kt_BlockError : PySem.W.typeIn K (.ref C_BlockError) = some (.type "type"))
    (g_MOST_BLOCKS : PySem.W.nsIn K mainGlobals "MOST_BLOCKS" = some (some (.int 200 t_MOST_BLOCKS)))
    (g_MOST_POINTS : PySem.W.nsIn K mainGlobals "MOST_POINTS" = some (some (.int 31 t_MOST_POINTS)))
    (e1_BadNumber : PySem.W.findIn K (.ref C_BadNumber) "__getattribute__" = some (some (.builtin "BaseException.__getattribute__")))
    (e2_BadNumber : PySem.W.findIn K (.ref C_BadNumber) "__getattr__" = some none)
    (e4_BadNumber : PySem.W.hasDictIn K C_BadNumber = true)
    (e5_BadNumber : PySem.W.findIn K (.ref C_BadNumber) "__class__" = some (some (.builtin "object.__class__")))
    (e6_BadNumber : PySem.W.specialIn K (.builtin "object.__class__") "__get__" = some (some (.builtin "getset_descriptor.__get__")))
    (e7_BadNumber : PySem.W.takesIn K (.builtin "object.__class__") = some true)
    (e8_BadNumber : PySem.W.mroIn K C_BadNumber (.type "object") = some true)
    (h_BadNumber : PySem.W.hasDictIn K C_BadNumber = true)
    (s_BadNumber_BadNumber : PySem.W.subIn K (.ref C_BadNumber) (.ref C_BadNumber) = some true)
    (s_BadNumber_ValueError : PySem.W.subIn K (.ref C_BadNumber) (.type "ValueError") = some true)
    (h_BlockError : PySem.W.hasDictIn K C_BlockError = true)
    (s_BadNumber_BlockError : PySem.W.subIn K (.ref C_BadNumber) (.ref C_BlockError) = some true)
    : ∃ (cl : Cl → Addr) (A : Ad), A.a_law = fa ∧ (∀ (s : Shared) (u : Value), BindsTo s A.d_law ⟨[u], []⟩ [("script", u)]) ∧ Txt K mg cl A := by
  have e : fa = f_law := by
    have e := hfa.symm.trans (PySem.W.mg_of X G a_law)
    cases e
    rfl
  subst e
  have F_is_within := fun_mk (st := topS 6) l_is_within c_is_within k_is_within
  have F_could_be := fun_mk (st := topS 8) l_could_be c_could_be k_could_be
  have F__law_cell := fun_mk (st := topS 10) l__law_cell c__law_cell k__law_cell
  have F__law_told := fun_mk (st := topS 11) l__law_told c__law_told k__law_told
  have F__law_once := fun_mk (st := topS 12) l__law_once c__law_once k__law_once
  have F_law := fun_mk (st := topS 13) l_law c_law k_law
  refine ⟨fun c => match c with | .badNumber => C_BadNumber | .blockError => C_BlockError | _ => 0, { a_is_within := f_is_within, d_is_within := PySem.W.fnOf "is_within" "is_within" (defArgs (topS 6)) (defBody (topS 6)) (defScope (topS 6)) .none kV_is_within dc_is_within pm_is_within an_is_within cd_is_within ct_is_within, a_could_be := f_could_be, d_could_be := PySem.W.fnOf "could_be" "could_be" (defArgs (topS 8)) (defBody (topS 8)) (defScope (topS 8)) .none kV_could_be dc_could_be pm_could_be an_could_be cd_could_be ct_could_be, a__law_cell := f__law_cell, d__law_cell := PySem.W.fnOf "_law_cell" "_law_cell" (defArgs (topS 10)) (defBody (topS 10)) (defScope (topS 10)) .none kV__law_cell dc__law_cell pm__law_cell an__law_cell cd__law_cell ct__law_cell, a__law_told := f__law_told, d__law_told := PySem.W.fnOf "_law_told" "_law_told" (defArgs (topS 11)) (defBody (topS 11)) (defScope (topS 11)) .none kV__law_told dc__law_told pm__law_told an__law_told cd__law_told ct__law_told, a__law_once := f__law_once, d__law_once := PySem.W.fnOf "_law_once" "_law_once" (defArgs (topS 12)) (defBody (topS 12)) (defScope (topS 12)) .none kV__law_once dc__law_once pm__law_once an__law_once cd__law_once ct__law_once, a_law := fa, d_law := PySem.W.fnOf "law" "law" (defArgs (topS 13)) (defBody (topS 13)) (defScope (topS 13)) .none kV_law dc_law pm_law an_law cd_law ct_law, t_MOST_BLOCKS := t_MOST_BLOCKS, t_MOST_POINTS := t_MOST_POINTS }, rfl, fun s u => .of_eq rfl, ?_⟩
  exact {
    f_is_within := F_is_within
    g_is_within := PySem.W.mg_of X G a_is_within
    b_is_within := F_is_within.binds fun _ _ _ _ _ _ us hl => match us, hl with | [_, _, _], _ => rfl
    f_could_be := F_could_be
    g_could_be := PySem.W.mg_of X G a_could_be
    b_could_be := F_could_be.binds fun _ _ _ _ _ _ us hl => match us, hl with | [_, _, _], _ => rfl
    f__law_cell := F__law_cell
    g__law_cell := PySem.W.mg_of X G a__law_cell
    b__law_cell := F__law_cell.binds fun _ _ _ _ _ _ us hl => match us, hl with | [_, _], _ => rfl
    f__law_told := F__law_told
    g__law_told := PySem.W.mg_of X G a__law_told
    b__law_told := F__law_told.binds fun _ _ _ _ _ _ us hl => match us, hl with | [_, _, _], _ => rfl
    f__law_once := F__law_once
    g__law_once := PySem.W.mg_of X G a__law_once
    b__law_once := F__law_once.binds fun _ _ _ _ _ _ us hl => match us, hl with | [_], _ => rfl
    f_law := F_law
    g_law := PySem.W.mg_of X G a_law
    b_law := F_law.binds fun _ _ _ _ _ _ us hl => match us, hl with | [_], _ => rfl
    n_ValueError := PySem.W.mg_none_of X G n_ValueError
    n_bool := PySem.W.mg_none_of X G n_bool
    n_int := PySem.W.mg_none_of X G n_int
    n_isinstance := PySem.W.mg_none_of X G n_isinstance
    n_len := PySem.W.mg_none_of X G n_len
    n_tuple := PySem.W.mg_none_of X G n_tuple
    k_BadNumber := ⟨PySem.W.mg_of X G kg_BadNumber, ki_BadNumber, kk_BadNumber, kb_BadNumber, kt_BadNumber⟩
    k_BlockError := ⟨PySem.W.mg_of X G kg_BlockError, ki_BlockError, kk_BlockError, kb_BlockError, kt_BlockError⟩
    c_MOST_BLOCKS := PySem.W.mg_of X G g_MOST_BLOCKS
    c_MOST_POINTS := PySem.W.mg_of X G g_MOST_POINTS
    e_BadNumber := ⟨e1_BadNumber, e2_BadNumber, kb_BadNumber, e4_BadNumber, e5_BadNumber, e6_BadNumber, e7_BadNumber, e8_BadNumber⟩
    i_BadNumber_BadNumber := kit_ownT h_BadNumber kt_BadNumber s_BadNumber_BadNumber
    i_BadNumber_ValueError := kit_bltn meta_VE s_BadNumber_ValueError
    x_BadNumber_BlockError := PySem.W.exm_ref kb_BlockError h_BlockError kt_BlockError s_BadNumber_BlockError
  }
end Bh.K04
open PySem PySem.W PyProof.Rows
set_option maxHeartbeats 0 in
theorem PySem.Challenge.cw_blockhall_k04_numbers_that_could_be_holds : PySem.Challenge.rw_blockhall_k04_numbers_that_could_be.Holds := by
  w_on; o_law; k_head; (case hw => w_witness2)
  k_fill
  refine L2.walk_of (l := PySem.Challenge.rw_blockhall_k04_numbers_that_could_be) (n := 63) (k := 5) (x := "script") (CX := fun w => L2.CX (PySem.Challenge.rw_blockhall_k04_numbers_that_could_be).prog w) (sp := fun w => Bh.lawSp _ Bh.F_law_k04) rfl (by decide) rfl ⟨rfl, by decide, by decide⟩ (fun w h Y => PySem.W.kIn_of Y) ?F (fun _ H a ns hl _ hS => Bh.lawSp_mk hS (Bh.law_k04 ns hl)) (fun _ _ _ _ _ h => Bh.cx_false h)
  case F =>
    intro w mg fa h KX G hmg
    suffices hs : ∃ (cl : Bh.Cl → Addr) (A : Bh.K04.Ad), A.a_law = fa ∧ (∀ (s : Shared) (u : Value), BindsTo s A.d_law ⟨[u], []⟩ [("script", u)]) ∧ Bh.K04.Txt _ mg cl A by
      obtain ⟨cl, A, rfl, hb, T⟩ := hs
      exact ⟨A.d_law, hb, fun base _ _ => Bh.lawSp_ok (Bh.K04.ok_law_k04 T)⟩
    refine' Bh.K04.all_mk KX G hmg ?a_is_within ?l_is_within ?c_is_within ?k_is_within ?a_could_be ?l_could_be ?c_could_be ?k_could_be ?a__law_cell ?l__law_cell ?c__law_cell ?k__law_cell ?a__law_told ?l__law_told ?c__law_told ?k__law_told ?a__law_once ?l__law_once ?c__law_once ?k__law_once ?a_law ?l_law ?c_law ?k_law ?n_ValueError ?n_bool ?n_int ?n_isinstance ?n_len ?n_tuple ?kg_BadNumber ?ki_BadNumber ?kk_BadNumber ?kb_BadNumber ?kt_BadNumber ?kg_BlockError ?ki_BlockError ?kk_BlockError ?kb_BlockError ?kt_BlockError ?g_MOST_BLOCKS ?g_MOST_POINTS ?e1_BadNumber ?e2_BadNumber ?e4_BadNumber ?e5_BadNumber ?e6_BadNumber ?e7_BadNumber ?e8_BadNumber ?h_BadNumber ?s_BadNumber_BadNumber ?s_BadNumber_ValueError ?h_BlockError ?s_BadNumber_BlockError
    (case a_is_within => k_is); (case l_is_within => k_is); (case c_is_within => k_is); (case k_is_within => k_is); (case a_could_be => k_is); (case l_could_be => k_is); (case c_could_be => k_is); (case k_could_be => k_is); (case a__law_cell => k_is); (case l__law_cell => k_is); (case c__law_cell => k_is); (case k__law_cell => k_is); (case a__law_told => k_is); (case l__law_told => k_is); (case c__law_told => k_is); (case k__law_told => k_is); (case a__law_once => k_is); (case l__law_once => k_is); (case c__law_once => k_is); (case k__law_once => k_is); (case a_law => k_is); (case l_law => k_is); (case c_law => k_is); (case k_law => k_is); (case n_ValueError => k_is); (case n_bool => k_is); (case n_int => k_is); (case n_isinstance => k_is); (case n_len => k_is); (case n_tuple => k_is); (case kg_BadNumber => k_is); (case ki_BadNumber => k_exc); (case kk_BadNumber => k_is); (case kb_BadNumber => k_is); (case kt_BadNumber => k_is); (case kg_BlockError => k_is); (case ki_BlockError => k_exc); (case kk_BlockError => k_is); (case kb_BlockError => k_is); (case kt_BlockError => k_is); (case g_MOST_BLOCKS => k_is); (case g_MOST_POINTS => k_is); (case e1_BadNumber => k_is); (case e2_BadNumber => k_is); (case e4_BadNumber => k_is); (case e5_BadNumber => k_is); (case e6_BadNumber => k_is); (case e7_BadNumber => k_is); (case e8_BadNumber => k_is); (case h_BadNumber => k_is); (case s_BadNumber_BadNumber => k_is); (case s_BadNumber_ValueError => k_is); (case h_BlockError => k_is); (case s_BadNumber_BlockError => k_is)
