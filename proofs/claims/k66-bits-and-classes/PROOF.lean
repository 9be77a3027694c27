import PyProof.Rows.All
import Wide.All
import OpenK.AllK
import Wide.FinOn
import HandS.Base
import HandS.Call
import HandS.List
import HandS.Comp
import HandS.Exc
import HandS.TryOnly
import HandS.ExcOwn
import HandS.CallSlots
import HandS.Words
import HandS.WordsExc
import HandS.Evl
import HandS.Text
import HandS.More
import HandS.Iter
import HandS.Wide
import HandS.WideBits
import HandS.TupAny
import HandS.IsInst
import HandS.Deep
import HandS.TupLe
import HandS.StrMore
import HandS.SortInts
import HandS.Gcd
import PyProof.Rows.StrPadWhole
import HandS.WideMore
import HandS.HeadHook1
import HandS.HeadHook2
import HandS.HeadNt
import HandS.Head0
import HandS.Head1
import HandS.Head2
import HandS.HeadEnd
import HandS.Defaults
import KE.KStateDown
import OpenK.KEqL
import PySem.Challenge.RW_inkedtrue_k66_bits_and_classes
set_option Elab.async false
set_option linter.all false
set_option maxRecDepth 100000
set_option maxHeartbeats 0
namespace PM
open PySem L2

/-! ### data without addresses -/
inductive D where
  | non | bl (b : Bool) | int (i : Int) | str (s : List Nat)
  | lst (xs : List D) | tup (xs : List D) | dic (ks : List Key) (xs : List D) | raw (v : V)
instance : Inhabited D := ⟨.non⟩

abbrev Fr := PySem.W.Frag
abbrev st (s : List Nat) : Str := ⟨s.toArray⟩
def Sub (F H : Hp) : Prop := ∀ a o, F a = some o → H a = some o
theorem Sub.refl (H : Hp) : Sub H H := fun _ _ h => h
theorem Sub.trans {A B C : Hp} (h : Sub A B) (k : Sub B C) : Sub A C := fun a o e => k a o (h a o e)
theorem Sub.none {F H : Hp} (h : Sub F H) {a : Addr} (e : H a = Option.none) : F a = Option.none := by
  cases q : F a with
  | none => rfl
  | some o => rw [h a o q] at e; cases e
theorem Sub.upd {F : Hp} {a : Addr} {o : HO} (h : F a = Option.none) : Sub F (upd F a o) := fun b u e => by
  rw [upd_ne (ne_of_none e h)]; exact e
theorem Sub.sqL {K : Fr} {F H : Hp} (h : Sub F H) {a : Addr} {xs : List V} (k : SqL K F a xs) : SqL K H a xs := by
  rcases k with (k | ⟨o, k⟩) | k
  · exact .inl (.inl (h _ _ k))
  · exact .inl (.inr ⟨o, h _ _ k⟩)
  · exact .inr k
theorem Sub.rd {F H : Hp} (h : Sub F H) {a : Addr} {o : HO} (k : Rd F a o) : Rd H a o := by
  rcases k with k | ⟨o, k⟩
  · exact .inl (h _ _ k)
  · exact .inr ⟨o, h _ _ k⟩
theorem Sub.sqT {K : Fr} {F H : Hp} (h : Sub F H) {a : Addr} {xs : List V} (k : SqT K F a xs) : SqT K H a xs := by
  rcases k with (k | ⟨o, k⟩) | k
  · exact .inl (.inl (h _ _ k))
  · exact .inl (.inr ⟨o, h _ _ k⟩)
  · exact .inr k

mutual
def Rep (K : Fr) (F : Hp) : D → V → Prop
  | .non, v => v = .non
  | .bl b, v => v = .bl b
  | .int i, v => v = .int i
  | .str s, v => v = .str (st s)
  | .raw u, v => v = u
  | .lst ds, v => ∃ a vs, v = .ref a ∧ Rd F a (.lst vs) ∧ Reps K F ds vs
  | .tup ds, v => ∃ a vs, v = .ref a ∧ SqT K F a vs ∧ Reps K F ds vs
  | .dic ks ds, v => ∃ a vs, v = .ref a ∧ F a = some (.dK (ks.zip vs)) ∧ ks.length = vs.length ∧ Reps K F ds vs
def Reps (K : Fr) (F : Hp) : List D → List V → Prop
  | [], vs => vs = []
  | d :: ds, vs => ∃ v r, vs = v :: r ∧ Rep K F d v ∧ Reps K F ds r
end

mutual
theorem Rep.mono {K : Fr} {F H : Hp} (h : Sub F H) : ∀ (d : D) (v : V), Rep K F d v → Rep K H d v
  | .non, _, k => k
  | .bl _, _, k => k
  | .int _, _, k => k
  | .str _, _, k => k
  | .raw _, _, k => k
  | .lst ds, v, k => by
    unfold Rep at k ⊢
    obtain ⟨a, vs, e, s, r⟩ := k
    exact ⟨a, vs, e, h.rd s, Reps.mono h ds vs r⟩
  | .tup ds, v, k => by
    unfold Rep at k ⊢
    obtain ⟨a, vs, e, s, r⟩ := k
    exact ⟨a, vs, e, h.sqT s, Reps.mono h ds vs r⟩
  | .dic ks ds, v, k => by
    unfold Rep at k ⊢
    obtain ⟨a, vs, e, s, l, r⟩ := k
    exact ⟨a, vs, e, h _ _ s, l, Reps.mono h ds vs r⟩
theorem Reps.mono {K : Fr} {F H : Hp} (h : Sub F H) : ∀ (ds : List D) (vs : List V), Reps K F ds vs → Reps K H ds vs
  | [], _, k => k
  | d :: ds, vs, k => by
    unfold Reps at k ⊢
    obtain ⟨v, r, e, k1, k2⟩ := k
    exact ⟨v, r, e, Rep.mono h d v k1, Reps.mono h ds r k2⟩
end

theorem Reps.nil {K : Fr} {F : Hp} : Reps K F [] [] := by unfold Reps; rfl
theorem Reps.cons {K : Fr} {F : Hp} {d : D} {ds : List D} {v : V} {vs : List V} (h : Rep K F d v) (k : Reps K F ds vs) : Reps K F (d :: ds) (v :: vs) := by
  unfold Reps; exact ⟨v, vs, rfl, h, k⟩
theorem Reps.inv {K : Fr} {F : Hp} {d : D} {ds : List D} {vs : List V} (h : Reps K F (d :: ds) vs) : ∃ v r, vs = v :: r ∧ Rep K F d v ∧ Reps K F ds r := by
  unfold Reps at h; exact h
theorem Reps.inv0 {K : Fr} {F : Hp} {vs : List V} (h : Reps K F [] vs) : vs = [] := by
  unfold Reps at h; exact h
theorem Reps.length {K : Fr} {F : Hp} : ∀ {ds : List D} {vs : List V}, Reps K F ds vs → ds.length = vs.length
  | [], vs, h => by rw [h.inv0]; rfl
  | d :: ds, vs, h => by
    obtain ⟨v, r, rfl, _, k⟩ := h.inv
    rw [List.length_cons, List.length_cons, k.length]
theorem Reps.get {K : Fr} {F : Hp} : ∀ {ds : List D} {vs : List V} {i : Nat} {d : D}, Reps K F ds vs → ds[i]? = some d → ∃ v, vs[i]? = some v ∧ Rep K F d v
  | [], vs, i, d, h, e => by simp at e
  | d' :: ds, vs, 0, d, h, e => by
    obtain ⟨v, r, rfl, k1, _⟩ := h.inv
    simp at e; subst e
    exact ⟨v, rfl, k1⟩
  | d' :: ds, vs, i + 1, d, h, e => by
    obtain ⟨v, r, rfl, _, k⟩ := h.inv
    obtain ⟨v', e', k'⟩ := Reps.get (i := i) k (by simpa using e)
    exact ⟨v', by simpa using e', k'⟩
theorem Reps.getV {K : Fr} {F : Hp} : ∀ {ds : List D} {vs : List V} {i : Nat} {v : V}, Reps K F ds vs → vs[i]? = some v → ∃ d, ds[i]? = some d ∧ Rep K F d v
  | [], vs, i, v, h, e => by rw [h.inv0] at e; simp at e
  | d' :: ds, vs, 0, v, h, e => by
    obtain ⟨v', r, rfl, k1, _⟩ := h.inv
    simp at e; subst e
    exact ⟨d', rfl, k1⟩
  | d' :: ds, vs, i + 1, v, h, e => by
    obtain ⟨v', r, rfl, _, k⟩ := h.inv
    obtain ⟨d, e', k'⟩ := Reps.getV (i := i) k (by simpa using e)
    exact ⟨d, by simpa using e', k'⟩
theorem Reps.append {K : Fr} {F : Hp} : ∀ {ds es : List D} {vs us : List V}, Reps K F ds vs → Reps K F es us → Reps K F (ds ++ es) (vs ++ us)
  | [], es, vs, us, h, k => by rw [h.inv0]; exact k
  | d :: ds, es, vs, us, h, k => by
    obtain ⟨v, r, rfl, k1, k2⟩ := h.inv
    exact Reps.cons k1 (Reps.append k2 k)
theorem Reps.take {K : Fr} {F : Hp} : ∀ {ds : List D} {vs : List V} (n : Nat), Reps K F ds vs → Reps K F (ds.take n) (vs.take n)
  | ds, vs, 0, h => by rw [List.take_zero, List.take_zero]; exact Reps.nil
  | [], vs, n + 1, h => by rw [h.inv0]; exact Reps.nil
  | d :: ds, vs, n + 1, h => by
    obtain ⟨v, r, rfl, k1, k2⟩ := h.inv
    exact Reps.cons k1 (Reps.take n k2)
theorem Reps.drop {K : Fr} {F : Hp} : ∀ {ds : List D} {vs : List V} (n : Nat), Reps K F ds vs → Reps K F (ds.drop n) (vs.drop n)
  | ds, vs, 0, h => h
  | [], vs, n + 1, h => by rw [h.inv0]; exact Reps.nil
  | d :: ds, vs, n + 1, h => by
    obtain ⟨v, r, rfl, k1, k2⟩ := h.inv
    exact Reps.drop n k2
theorem Reps.set {K : Fr} {F : Hp} : ∀ {ds : List D} {vs : List V} (n : Nat) {d : D} {v : V}, Reps K F ds vs → Rep K F d v → Reps K F (ds.set n d) (vs.set n v)
  | [], vs, n, d, v, h, k => by rw [h.inv0]; exact Reps.nil
  | d' :: ds, vs, 0, d, v, h, k => by
    obtain ⟨v', r, rfl, k1, k2⟩ := h.inv
    exact Reps.cons k k2
  | d' :: ds, vs, n + 1, d, v, h, k => by
    obtain ⟨v', r, rfl, k1, k2⟩ := h.inv
    exact Reps.cons k1 (Reps.set n k2 k)

/-! ### a frame's slots: (owned, datum) -/
abbrev Slot := Bool × D
abbrev Env := List (Option Slot)

/-- a list or dict that stands at a -/
def At (K : Fr) (F H : Hp) (d : D) (a : Addr) : Prop :=
  match d with
  | .lst ds => ∃ vs, H a = some (.lst vs) ∧ Reps K F ds vs
  | .dic ks ds => ∃ vs, H a = some (.dK (ks.zip vs)) ∧ ks.length = vs.length ∧ Reps K F ds vs
  | _ => False
def Own (K : Fr) (B F H : Hp) (d : D) (v : V) : Prop := ∃ a, v = .ref a ∧ F a = none ∧ B a = none ∧ At K F H d a
def SlR (K : Fr) (B F H : Hp) (s : Slot) (v : V) : Prop := match s with
  | (false, d) => Rep K F d v
  | (true, d) => Own K B F H d v
/-- readable: the outermost cell in H, what is within in F -/
def PkR (K : Fr) (F H : Hp) (d : D) (v : V) : Prop := match d with
  | .lst ds => ∃ a vs, v = .ref a ∧ Rd H a (.lst vs) ∧ Reps K F ds vs
  | .dic ks ds => ∃ a vs, v = .ref a ∧ H a = some (.dK (ks.zip vs)) ∧ ks.length = vs.length ∧ Reps K F ds vs
  | d => Rep K F d v

theorem At.mono {K : Fr} {F H F' H' : Hp} {d : D} {a : Addr} (h : At K F H d a) (f : Sub F F') (e : ∀ o, H a = some o → H' a = some o) : At K F' H' d a := by
  cases d with
  | lst ds =>
    obtain ⟨vs, h1, h2⟩ := h
    exact ⟨vs, e _ h1, Reps.mono f _ _ h2⟩
  | dic ks ds =>
    obtain ⟨vs, h1, h2, h3⟩ := h
    exact ⟨vs, e _ h1, h2, Reps.mono f _ _ h3⟩
  | _ => exact h.elim
theorem At.there {K : Fr} {F H : Hp} {d : D} {a : Addr} (h : At K F H d a) : ∃ o, H a = some o := by
  cases d with
  | lst ds => obtain ⟨vs, h1, _⟩ := h; exact ⟨_, h1⟩
  | dic ks ds => obtain ⟨vs, h1, _⟩ := h; exact ⟨_, h1⟩
  | _ => exact h.elim
/-- what stands at a, frozen -/
theorem At.rep {K : Fr} {F H F' : Hp} {d : D} {a : Addr} (h : At K F H d a) (f : Sub F F') (e : ∀ o, H a = some o → F' a = some o) : Rep K F' d (.ref a) := by
  cases d with
  | lst ds =>
    obtain ⟨vs, h1, h2⟩ := h
    unfold Rep
    exact ⟨a, vs, rfl, .inl (e _ h1), Reps.mono f _ _ h2⟩
  | dic ks ds =>
    obtain ⟨vs, h1, h2, h3⟩ := h
    unfold Rep
    exact ⟨a, vs, rfl, e _ h1, h2, Reps.mono f _ _ h3⟩
  | _ => exact h.elim
theorem At.pk {K : Fr} {F H : Hp} {d : D} {a : Addr} (h : At K F H d a) : PkR K F H d (.ref a) := by
  cases d with
  | lst ds =>
    obtain ⟨vs, h1, h2⟩ := h
    exact ⟨a, vs, rfl, .inl h1, h2⟩
  | dic ks ds =>
    obtain ⟨vs, h1, h2, h3⟩ := h
    exact ⟨a, vs, rfl, h1, h2, h3⟩
  | _ => exact h.elim
theorem Rep.pk {K : Fr} {F H : Hp} (f : Sub F H) {d : D} {v : V} (h : Rep K F d v) : PkR K F H d v := by
  cases d with
  | lst ds =>
    unfold Rep at h
    obtain ⟨a, vs, e, s, r⟩ := h
    exact ⟨a, vs, e, f.rd s, r⟩
  | dic ks ds =>
    unfold Rep at h
    obtain ⟨a, vs, e, s, l, r⟩ := h
    exact ⟨a, vs, e, f _ _ s, l, r⟩
  | _ => exact h
theorem SlR.pk {K : Fr} {B F H : Hp} (f : Sub F H) {s : Slot} {v : V} (h : SlR K B F H s v) : PkR K F H s.2 v := by
  obtain ⟨o, d⟩ := s
  cases o with
  | false => exact Rep.pk f h
  | true =>
    obtain ⟨a, rfl, _, _, h⟩ := h
    exact h.pk
theorem PkR.mono {K : Fr} {F H F' H' : Hp} {d : D} {v : V} (h : PkR K F H d v) (f : Sub F F') (g : Sub H H') : PkR K F' H' d v := by
  cases d with
  | lst ds =>
    obtain ⟨a, vs, e, s, r⟩ := h
    exact ⟨a, vs, e, g.rd s, Reps.mono f _ _ r⟩
  | dic ks ds =>
    obtain ⟨a, vs, e, s, l, r⟩ := h
    exact ⟨a, vs, e, g _ _ s, l, Reps.mono f _ _ r⟩
  | tup ds => exact Rep.mono f (.tup ds) v h
  | _ => exact h
theorem PkR.rep {K : Fr} {F H : Hp} (f : Sub F H) {d : D} {v : V} (h : PkR K F H d v) : Rep K H d v := by
  cases d with
  | lst ds =>
    obtain ⟨a, vs, e, s, r⟩ := h
    unfold Rep
    exact ⟨a, vs, e, s, Reps.mono f _ _ r⟩
  | dic ks ds =>
    obtain ⟨a, vs, e, s, l, r⟩ := h
    unfold Rep
    exact ⟨a, vs, e, s, l, Reps.mono f _ _ r⟩
  | tup ds => exact Rep.mono f (.tup ds) v h
  | _ => exact h

/-- the state. B: what stood at the def's entry (kept); F0: what of it is data; F: the data now; H: the heap now -/
structure SR (K : Fr) (B F0 F H : Hp) (σ : L2.St) (ρ : Env) : Prop where
  bh : Sub B H
  fh : Sub F H
  f0 : Sub F0 F
  new : ∀ a o, F a = some o → F0 a = some o ∨ B a = none
  len : σ.length = ρ.length
  sl : ∀ (i : Nat) (s : Slot), ρ[i]? = some (some s) → ∃ v, σ[i]? = some (some v) ∧ SlR K B F H s v
  sep : ∀ (i j : Nat) (p : Addr) (di dj : D), ρ[i]? = some (some (true, di)) → ρ[j]? = some (some (true, dj)) → σ[i]? = some (some (.ref p)) → σ[j]? = some (some (.ref p)) → i = j

/-- data and heap grow by new objects alone -/
structure Grow (F H F' H' : Hp) : Prop where
  f : Sub F F'
  h : Sub H H'
  fh : Sub F' H'
  new : ∀ a o, F' a = some o → F a = some o ∨ H a = none
theorem Grow.refl {F H : Hp} (h : Sub F H) : Grow F H F H := ⟨Sub.refl _, Sub.refl _, h, fun _ _ e => .inl e⟩
theorem Grow.trans {F H F1 H1 F2 H2 : Hp} (a : Grow F H F1 H1) (b : Grow F1 H1 F2 H2) : Grow F H F2 H2 :=
  ⟨a.f.trans b.f, a.h.trans b.h, b.fh, fun x o e => by
    rcases b.new x o e with e | e
    · exact a.new x o e
    · exact .inr (a.h.none e)⟩

section
variable {K : Fr} {B F0 F H F' H' : Hp} {σ : L2.St} {ρ ρ' : Env}
theorem SR.slot (S : SR K B F0 F H σ ρ) {i : Nat} {s : Slot} (e : ρ[i]? = some (some s)) : ∃ v, σ[i]? = some (some v) ∧ SlR K B F H s v := S.sl i s e
theorem SlR.grow {s : Slot} {v : V} (h : SlR K B F H s v) (g : Grow F H F' H') : SlR K B F' H' s v := by
  obtain ⟨o, d⟩ := s
  cases o with
  | false => exact Rep.mono g.f d v h
  | true =>
    obtain ⟨a, e, fa, ba, k⟩ := h
    obtain ⟨o, ho⟩ := k.there
    refine ⟨a, e, ?_, ba, k.mono g.f fun u hu => g.h a u hu⟩
    cases q : F' a with
    | none => rfl
    | some u =>
      rcases g.new a u q with z | z
      · rw [fa] at z; cases z
      · rw [ho] at z; cases z
theorem SR.grow (S : SR K B F0 F H σ ρ) (g : Grow F H F' H') : SR K B F0 F' H' σ ρ where
  bh := S.bh.trans g.h
  fh := g.fh
  f0 := S.f0.trans g.f
  new := fun a o e => by
    rcases g.new a o e with z | z
    · exact S.new a o z
    · exact .inr (S.bh.none z)
  len := S.len
  sl := fun i s e => by
    obtain ⟨v, h1, h2⟩ := S.sl i s e
    exact ⟨v, h1, h2.grow g⟩
  sep := S.sep
/-- an owned datum is frozen: its cell goes to the data -/
theorem SR.freeze (S : SR K B F0 F H σ ρ) {i : Nat} {d : D} {v : V} (e : ρ[i]? = some (some (true, d))) (ev : σ[i]? = some (some v)) :
    ∃ F', SR K B F0 F' H σ (ρ.set i (some (false, d))) ∧ Sub F F' ∧ Rep K F' d v := by
  obtain ⟨v', e', a, rfl, fa, ba, k⟩ := S.sl i _ e
  rw [ev] at e'; cases e'
  obtain ⟨o, ho⟩ := k.there
  have hf : Sub F (upd F a o) := Sub.upd fa
  have hi : i < ρ.length := (List.getElem?_eq_some_iff.mp e).1
  refine ⟨upd F a o, ⟨S.bh, fun b u q => ?_, S.f0.trans hf, fun b u q => ?_, by simpa using S.len, fun j s q => ?_, fun j l p dj dl q1 q2 => ?_⟩, hf, k.rep hf fun u hu => ?_⟩
  · by_cases hb : b = a
    · subst hb; rw [upd_same] at q; cases q; exact ho
    · rw [upd_ne hb] at q; exact S.fh b u q
  · by_cases hb : b = a
    · subst hb; exact .inr ba
    · rw [upd_ne hb] at q; exact S.new b u q
  · by_cases hj : j = i
    · subst hj
      rw [List.getElem?_set_self hi] at q
      cases q
      exact ⟨.ref a, ev, k.rep hf fun u hu => by rw [ho] at hu; cases hu; exact upd_same⟩
    · rw [List.getElem?_set_ne (Ne.symm hj)] at q
      obtain ⟨v, h1, h2⟩ := S.sl j s q
      refine ⟨v, h1, ?_⟩
      obtain ⟨ow, dj⟩ := s
      cases ow with
      | false => exact Rep.mono hf dj v h2
      | true =>
        obtain ⟨p, rfl, fp, bp, kp⟩ := h2
        have np : p ≠ a := fun z => by
          subst z
          exact hj (S.sep j i p dj d q e h1 ev)
        exact ⟨p, rfl, by rw [upd_ne np]; exact fp, bp, kp.mono hf fun u hu => hu⟩
  · have nj : j ≠ i := fun z => by
      subst z; rw [List.getElem?_set_self hi] at q1; cases q1
    have nl : l ≠ i := fun z => by
      subst z; rw [List.getElem?_set_self hi] at q2; cases q2
    rw [List.getElem?_set_ne (Ne.symm nj)] at q1
    rw [List.getElem?_set_ne (Ne.symm nl)] at q2
    exact S.sep j l p dj dl q1 q2
  · rw [ho] at hu; cases hu; exact upd_same
end
end PM
namespace PM
open PySem L2

/-! ### what an expression, a statement, a def comes to -/
/-- an exception: its class's name, its fields -/
structure Exn where
  cls : Str
  fs : List (Str × D)
inductive Out (α : Type) where
  | ok (a : α) (ρ : Env)
  | exc (e : Exn) (ρ : Env)
  | bad
abbrev M (α : Type) := Env → Out α
def M.bind {α β : Type} (m : M α) (f : α → M β) : M β := fun ρ => match m ρ with
  | .ok a ρ' => f a ρ'
  | .exc e ρ' => .exc e ρ'
  | .bad => .bad
def M.lift {α : Type} (o : Option α) : M α := fun ρ => match o with
  | some a => .ok a ρ
  | none => .bad
inductive SOut where
  | nx (ρ : Env) | bk (ρ : Env) | ct (ρ : Env) | rt (s : Slot) | exc (e : Exn) (ρ : Env) | bad
abbrev SM := Env → SOut
def M.thenS {α : Type} (m : M α) (f : α → SM) : SM := fun ρ => match m ρ with
  | .ok a ρ' => f a ρ'
  | .exc e ρ' => .exc e ρ'
  | .bad => .bad
inductive FOut where
  | ok (s : Slot) | exc (e : Exn) | bad
abbrev FM := List D → FOut

/-- the context: the written part, the module's names, the entry's heap, its data, the wish of exceptions -/
structure Ct where
  K : Fr
  mg : Str → Option Value
  B : Hp
  F0 : Hp
  W : WX

def XR (K : Fr) (mg : Str → Option Value) (F H : Hp) (e : Exn) (cls : Value) (d : Option Addr) : Prop :=
  mg e.cls = some cls ∧ ((e.fs = [] ∧ d = none) ∨ ∃ dx vs, d = some dx ∧ H dx = some (.xd ((e.fs.map (·.1)).zip vs)) ∧ Reps K F (e.fs.map (·.2)) vs)

/-- a value told by a slot: what is owned is in no slot of the frame -/
def VR (c : Ct) (F H : Hp) (σ : L2.St) (ρ : Env) (s : Slot) (v : V) : Prop :=
  SlR c.K c.B F H s v ∧ (s.1 = true → ∀ (i : Nat) (d : D), ρ[i]? = some (some (true, d)) → σ[i]? ≠ some (some v))

abbrev SRc (c : Ct) (F H : Hp) (σ : L2.St) (ρ : Env) : Prop := SR c.K c.B c.F0 F H σ ρ
def Aft {α β : Type} (c : Ct) (R : Hp → Hp → L2.St → Env → α → β → Prop) (F H : Hp) (σ : L2.St) (o : Out α) (Q : β → Hp → Prop) : Prop := match o with
  | .ok a ρ' => ∀ b F' H', SRc c F' H' σ ρ' → Sub F F' → Sub H H' → R F' H' σ ρ' a b → Q b H'
  | .exc e ρ' => ∀ F' H' cls d, SRc c F' H' σ ρ' → XR c.K c.mg F' H' e cls d → c.W cls d σ H'
  | .bad => False
def tG {α β : Type} (c : Ct) (R : Hp → Hp → L2.St → Env → α → β → Prop) (A : M α) : L2.St → Hp → (β → Hp → Prop) → Prop :=
  fun σ H Q => ∃ F ρ, SRc c F H σ ρ ∧ Aft c R F H σ (A ρ) Q
section
variable {α β γ δ : Type} {c : Ct} {R : Hp → Hp → L2.St → Env → α → β → Prop} {R1 : Hp → Hp → L2.St → Env → γ → δ → Prop} {F H F1 H1 : Hp} {σ : L2.St} {ρ : Env} {o : Out α} {Q : β → Hp → Prop}
theorem Aft.up (h : Aft c R F H σ o Q) (f : Sub F F1) (g : Sub H H1) : Aft c R F1 H1 σ o Q := by
  cases o with
  | ok a ρ' => exact fun b F' H' S f' h' r => h b F' H' S (f.trans f') (g.trans h') r
  | exc e ρ' => exact h
  | bad => exact h
theorem Aft.step {A : M γ} {f : γ → M α} {Ψ : δ → Hp → Prop} (h : Aft c R F H σ (A.bind f ρ) Q)
    (k : ∀ a ρ1 x F1 H1, SRc c F1 H1 σ ρ1 → R1 F1 H1 σ ρ1 a x → Sub F F1 → Sub H H1 → Aft c R F1 H1 σ (f a ρ1) Q → Ψ x H1) : Aft c R1 F H σ (A ρ) Ψ := by
  unfold M.bind at h
  cases e : A ρ with
  | ok a ρ1 =>
    rw [e] at h
    exact fun b F' H' S f' h' r => k a ρ1 b F' H' S r f' h' (h.up f' h')
  | exc x ρ1 =>
    rw [e] at h
    exact h
  | bad =>
    rw [e] at h
    exact h.elim
theorem Aft.imp {R' : Hp → Hp → L2.St → Env → γ → δ → Prop} {A : M α} {g : α → γ} {A' : M γ} {Q' : δ → Hp → Prop} (hA : A' ρ = (match A ρ with | .ok a ρ' => .ok (g a) ρ' | .exc e ρ' => .exc e ρ' | .bad => .bad))
    (h : Aft c R' F H σ (A' ρ) Q') (k : ∀ a ρ1 b F1 H1, SRc c F1 H1 σ ρ1 → R F1 H1 σ ρ1 a b → ∃ b', R' F1 H1 σ ρ1 (g a) b' ∧ (Q' b' H1 → Q b H1)) : Aft c R F H σ (A ρ) Q := by
  rw [hA] at h
  cases e : A ρ with
  | ok a ρ1 =>
    rw [e] at h
    intro b F' H' S f' h' r
    obtain ⟨b', r', q⟩ := k a ρ1 b F' H' S r
    exact q (h b' F' H' S f' h' r')
  | exc x ρ1 =>
    rw [e] at h
    exact h
  | bad =>
    rw [e] at h
    exact h.elim
end

def rT : Hp → Hp → L2.St → Env → Bool → Bool → Prop := fun _ _ _ _ b b' => b' = b
def rP (c : Ct) : Hp → Hp → L2.St → Env → D → V → Prop := fun F H _ _ d v => PkR c.K F H d v
def PkRs (K : Fr) (F H : Hp) : List D → List V → Prop
  | [], vs => vs = []
  | d :: ds, vs => ∃ v r, vs = v :: r ∧ PkR K F H d v ∧ PkRs K F H ds r
def rPs (c : Ct) : Hp → Hp → L2.St → Env → List D → List V → Prop := fun F H _ _ d v => PkRs c.K F H d v
abbrev tE (c : Ct) (A : M Slot) : TE := tG c (VR c) A
abbrev tP (c : Ct) (A : M D) : TE := tG c (rP c) A
abbrev tT (c : Ct) (A : M Bool) : TT := tG c rT A
abbrev tPs (c : Ct) (A : M (List D)) : TA := tG c (rPs c) A

/-! ### statements -/
def SAft (c : Ct) (o : SOut) (D : Ends) : Prop := match o with
  | .nx ρ' => ∀ σ' F' H', SRc c F' H' σ' ρ' → D.nx σ' H'
  | .bk ρ' => ∀ σ' F' H', SRc c F' H' σ' ρ' → D.bk σ' H'
  | .ct ρ' => ∀ σ' F' H', SRc c F' H' σ' ρ' → D.ct σ' H'
  | .rt s => ∀ v σ' ρ' F' H', SRc c F' H' σ' ρ' → SlR c.K c.B F' H' s v → D.rt v H'
  | .exc e ρ' => ∀ σ' F' H' cls d, SRc c F' H' σ' ρ' → XR c.K c.mg F' H' e cls d → c.W cls d σ' H'
  | .bad => False
def tS (c : Ct) (S : SM) : TS := fun D σ H => ∃ F ρ, SRc c F H σ ρ ∧ SAft c (S ρ) D
section
variable {γ δ : Type} {c : Ct} {R1 : Hp → Hp → L2.St → Env → γ → δ → Prop} {F H : Hp} {σ : L2.St} {ρ : Env} {E : Ends}
theorem SAft.step {A : M γ} {f : γ → SM} {Ψ : δ → Hp → Prop} (h : SAft c (A.thenS f ρ) E)
    (k : ∀ a ρ1 x F1 H1, SRc c F1 H1 σ ρ1 → R1 F1 H1 σ ρ1 a x → Sub F F1 → Sub H H1 → SAft c (f a ρ1) E → Ψ x H1) : Aft c R1 F H σ (A ρ) Ψ := by
  unfold M.thenS at h
  cases e : A ρ with
  | ok a ρ1 =>
    rw [e] at h
    exact fun b F' H' S f' h' r => k a ρ1 b F' H' S r f' h' h
  | exc x ρ1 =>
    rw [e] at h
    exact fun F' H' cls d S x => h σ F' H' cls d S x
  | bad =>
    rw [e] at h
    exact h.elim
end

/-! ### consequence -/
theorem _root_.L2.PE.imp {X : Cx} {e : Expr} {t t' : TE} (h : PE X e t) (k : ∀ σ H Q, t' σ H Q → t σ H Q) : PE X e t' := ⟨fun pins s σ H Q I hw => h.run pins s σ H Q I (k σ H Q hw)⟩
theorem _root_.L2.PT.imp {X : Cx} {e : Expr} {t t' : TT} (h : PT X e t) (k : ∀ σ H Q, t' σ H Q → t σ H Q) : PT X e t' := ⟨fun pins s σ H Q I hw => h.run pins s σ H Q I (k σ H Q hw)⟩
theorem _root_.L2.PW.imp {X : Cx} {e : Expr} {t t' : TT} (h : PW X e t) (k : ∀ σ H Q, t' σ H Q → t σ H Q) : PW X e t' := ⟨fun wh pins s σ H Q I hw => h.run wh pins s σ H Q I (k σ H Q hw)⟩
theorem _root_.L2.PA.imp {X : Cx} {es : List Expr} {t t' : TA} (h : PA X es t) (k : ∀ σ H Q, t' σ H Q → t σ H Q) : PA X es t' := ⟨fun pos pins s σ H Q I hw => h.run pos pins s σ H Q I (k σ H Q hw)⟩
theorem _root_.L2.PS.imp {X : Cx} {s : Stmt} {t t' : TS} (h : PS X s t) (k : ∀ D σ H, t' D σ H → t D σ H) : PS X s t' := ⟨fun pins s σ H D I hw => h.run pins s σ H D I (k D σ H hw)⟩
theorem _root_.L2.PSs.imp {X : Cx} {s : List Stmt} {t t' : TS} (h : PSs X s t) (k : ∀ D σ H, t' D σ H → t D σ H) : PSs X s t' := ⟨fun pins s σ H D I hw => h.run pins s σ H D I (k D σ H hw)⟩

/-! ### names and constants -/
def ret (s : Slot) : M Slot := fun ρ => .ok s ρ
def cst (d : D) : M Slot := ret (false, d)
/-- the value of the slot i, handed on: what was owned is frozen -/
def var (i : Nat) : M Slot := fun ρ => match ρ[i]? with
  | some (some (false, d)) => .ok (false, d) ρ
  | some (some (true, d)) => .ok (false, d) (ρ.set i (some (false, d)))
  | _ => .bad
/-- .. looked at -/
def pvar (i : Nat) : M D := fun ρ => match ρ[i]? with
  | some (some (_, d)) => .ok d ρ
  | _ => .bad
def pk (A : M Slot) : M D := A.bind fun s ρ => .ok s.2 ρ

section
variable {X : Cx} {c : Ct} {e a b : Expr} {pos : Pos}
theorem e_var {i : Nat} {x : Str} (h : PE X (.Name x pos) (tVar i)) : PE X (.Name x pos) (tE c (var i)) := by
  refine h.imp fun σ H Q ⟨F, ρ, S, a⟩ => ?_
  unfold var at a
  split at a
  · rename_i d e
    obtain ⟨v, h1, h2⟩ := S.sl i _ e
    exact ⟨v, h1, a v F H S (Sub.refl _) (Sub.refl _) ⟨h2, fun z => by cases z⟩⟩
  · rename_i d e
    obtain ⟨v, h1, _⟩ := S.sl i _ e
    obtain ⟨F', S', f, r⟩ := S.freeze e h1
    exact ⟨v, h1, a v F' H S' f (Sub.refl _) ⟨r, fun z => by cases z⟩⟩
  · exact a.elim
theorem p_var {i : Nat} {x : Str} (h : PE X (.Name x pos) (tVar i)) : PE X (.Name x pos) (tP c (pvar i)) := by
  refine h.imp fun σ H Q ⟨F, ρ, S, a⟩ => ?_
  unfold pvar at a
  split at a
  · rename_i o d e
    obtain ⟨v, h1, h2⟩ := S.sl i _ e
    exact ⟨v, h1, a v F H S (Sub.refl _) (Sub.refl _) (h2.pk S.fh)⟩
  · exact a.elim
theorem e_cst {d : D} {v : V} (h : PE X e (tC v)) (r : ∀ F, Rep c.K F d v) : PE X e (tE c (cst d)) := by
  refine h.imp fun σ H Q ⟨F, ρ, S, a⟩ => ?_
  exact a v F H S (Sub.refl _) (Sub.refl _) ⟨r F, fun z => by cases z⟩
theorem e_int {i : Int} {j : Nat} : PE X (.Constant (.int i) j pos) (tE c (cst (.int i))) := e_cst pe_int fun _ => rfl
theorem e_bl {i : Bool} {j : Nat} : PE X (.Constant (.bool i) j pos) (tE c (cst (.bl i))) := e_cst pe_bl fun _ => rfl
theorem e_non {j : Nat} : PE X (.Constant .none j pos) (tE c (cst .non)) := e_cst pe_non fun _ => rfl
theorem e_str {x : Str} {s : List Nat} {j : Nat} (h : x = st s := by rfl) : PE X (.Constant (.str x) j pos) (tE c (cst (.str s))) := e_cst pe_str fun _ => by rw [h]; rfl
theorem p_of {A : M Slot} (h : PE X e (tE c A)) : PE X e (tP c (pk A)) := by
  refine h.imp fun σ H Q ⟨F, ρ, S, a⟩ => ⟨F, ρ, S, a.step fun s ρ1 x F1 H1 S1 r1 f1 h1 a1 => ?_⟩
  exact a1 x F1 H1 S1 (Sub.refl _) (Sub.refl _) (r1.1.pk S1.fh)
end

/-! ### operations on values -/
/-- what an operation tells: grown heaps, the value new -/
def VN (K : Fr) (H F' H' : Hp) (s : Slot) (v : V) : Prop := match s with
  | (false, d) => Rep K F' d v
  | (true, d) => ∃ a, v = .ref a ∧ H a = none ∧ F' a = none ∧ At K F' H' d a
theorem VN.vr {c : Ct} {F H F' H' : Hp} {σ : L2.St} {ρ : Env} {s : Slot} {v : V} (h : VN c.K H F' H' s v) (S : SRc c F H σ ρ) : VR c F' H' σ ρ s v := by
  obtain ⟨o, d⟩ := s
  cases o with
  | false => exact ⟨h, fun z => by cases z⟩
  | true =>
    obtain ⟨a, rfl, ha, fa, k⟩ := h
    refine ⟨⟨a, rfl, fa, S.bh.none ha, k⟩, fun _ i d' e1 e2 => ?_⟩
    obtain ⟨v', h1, b, rfl, _, _, k'⟩ := S.sl i _ e1
    rw [e2] at h1; cases h1
    obtain ⟨o, ho⟩ := k'.there
    rw [ha] at ho; cases ho
def OpOk (K : Fr) (f : D → D → Option Slot) (r : R2) : Prop := ∀ (F H : Hp) (d1 d2 : D) (x y : V) (s : Slot) (Q : VK), Sub F H → PkR K F H d1 x → PkR K F H d2 y → f d1 d2 = some s →
  (∀ v F' H', Grow F H F' H' → VN K H F' H' s v → Q v H') → r x y H Q
def CallOk (K : Fr) (f : List D → Option Slot) (r : List V → Hp → VK → Prop) : Prop := ∀ (F H : Hp) (ds : List D) (xs : List V) (s : Slot) (Q : VK), Sub F H → PkRs K F H ds xs → f ds = some s →
  (∀ v F' H', Grow F H F' H' → VN K H F' H' s v → Q v H') → r xs H Q
def bin (f : D → D → Option Slot) (A1 A2 : M D) : M Slot := A1.bind fun d1 => A2.bind fun d2 => M.lift (f d1 d2)
section
variable {X : Cx} {c : Ct} {e a b : Expr} {pos : Pos}
theorem Aft.lift {F H : Hp} {σ : L2.St} {ρ : Env} {o : Option Slot} {Q : VK} (h : Aft c (VR c) F H σ (M.lift o ρ) Q) (S : SRc c F H σ ρ) :
    ∃ s, o = some s ∧ ∀ v F' H', Grow F H F' H' → VN c.K H F' H' s v → Q v H' := by
  cases o with
  | none => exact h.elim
  | some s => exact ⟨s, rfl, fun v F' H' g n => h v F' H' (S.grow g) g.f g.h (n.vr S)⟩
theorem op_tr {f : D → D → Option Slot} {r : R2} {A1 A2 : M D} (ok : OpOk c.K f r) {σ : L2.St} {H : Hp} {Q : VK} (h : tE c (bin f A1 A2) σ H Q) : tOp r (tP c A1) (tP c A2) σ H Q := by
  obtain ⟨F, ρ, S, a⟩ := h
  refine ⟨F, ρ, S, a.step fun d1 ρ1 x F1 H1 S1 r1 f1 h1 a1 => ⟨F1, ρ1, S1, a1.step fun d2 ρ2 y F2 H2 S2 r2 f2 h2 a2 => ?_⟩⟩
  obtain ⟨s, e, k⟩ := a2.lift S2
  exact ok F2 H2 d1 d2 x y s Q S2.fh (r1.mono f2 h2) r2 e k
theorem e_bin {op : Operator} {f : D → D → Option Slot} {r : R2} {A1 A2 : M D} (ho : OpR X (binaryOp op) r) (ok : OpOk c.K f r) (ha : PE X a (tP c A1)) (hb : PE X b (tP c A2)) : PE X (.BinOp a op b pos) (tE c (bin f A1 A2)) :=
  (pe_op ho ha hb).imp fun _ _ _ h => op_tr ok h
theorem e_cmp {op : CmpOp} {f : D → D → Option Slot} {r : R2} {A1 A2 : M D} (ho : OpR X (compareOp op) r) (ok : OpOk c.K f r) (ha : PE X a (tP c A1)) (hb : PE X b (tP c A2)) (hm : behindInMarks op b = false) : PE X (.Compare a [op] [b] pos) (tE c (bin f A1 A2)) :=
  (pe_cmpR ho ha hb hm).imp fun _ _ _ h => op_tr ok h
/-- a bool's value as a test -/
def asB (A : M Slot) : M Bool := A.bind fun s => M.lift (match s.2 with | .bl b => some b | _ => none)
theorem Aft.liftB {F H : Hp} {σ : L2.St} {ρ : Env} {o : Option Bool} {Q : Bool → Hp → Prop} (h : Aft c rT F H σ (M.lift o ρ) Q) (S : SRc c F H σ ρ) : ∃ b, o = some b ∧ Q b H := by
  cases o with
  | none => exact h.elim
  | some s => exact ⟨s, rfl, h s F H S (Sub.refl _) (Sub.refl _) rfl⟩
theorem asB_tr {A : M Slot} {σ : L2.St} {H : Hp} {Q : Bool → Hp → Prop} (h : tT c (asB A) σ H Q) : tTest (tE c A) σ H Q := by
  obtain ⟨F, ρ, S, a⟩ := h
  refine ⟨F, ρ, S, a.step fun s ρ1 x F1 H1 S1 r1 f1 h1 a1 => ?_⟩
  obtain ⟨b, e, q⟩ := a1.liftB S1
  obtain ⟨o, d⟩ := s
  cases d with
  | bl b' =>
    cases e
    cases o with
    | false => exact ⟨_, r1.1, q⟩
    | true => obtain ⟨a, _, _, _, k⟩ := r1.1; exact k.elim
  | _ => cases e
theorem t_cmp {op : CmpOp} {f : D → D → Option Slot} {r : R2} {A1 A2 : M D} (ho : OpR X (compareOp op) r) (ok : OpOk c.K f r) (ha : PE X a (tP c A1)) (hb : PE X b (tP c A2)) (hm : behindInMarks op b = false) : PT X (.Compare a [op] [b] pos) (tT c (asB (bin f A1 A2))) := by
  refine (pt_cmpR ho ha hb hm).imp fun σ H Q h => ?_
  obtain ⟨F, ρ, S, k⟩ := asB_tr h
  exact op_tr ok ⟨F, ρ, S, k⟩
/-- the truth of a datum -/
def truth : D → Option Bool
  | .non => some false
  | .bl b => some b
  | .int i => some (i != 0)
  | .str s => if s.length ≤ sizeLine then some ((s.length : Int) != 0) else none
  | .lst xs => some (!xs.isEmpty)
  | .tup xs => some (!xs.isEmpty)
  | .dic ks xs => some (!ks.isEmpty)
  | .raw _ => none
def tru (A : M D) : M Bool := A.bind fun d => M.lift (truth d)
theorem isEmpty_len {α β : Type} {xs : List α} {ys : List β} (h : xs.length = ys.length) : xs.isEmpty = ys.isEmpty := by
  cases xs <;> cases ys <;> simp at h ⊢
theorem truth_ok {K : Fr} {F H : Hp} {d : D} {v : V} {b : Bool} (fh : Sub F H) (r : PkR K F H d v) (e : truth d = some b) : TruV K v H b := by
  cases d with
  | non => cases e; have r : v = .non := r; subst r; rfl
  | bl _ => cases e; have r : v = .bl b := r; subst r; rfl
  | int i => cases e; have r : v = .int i := r; subst r; rfl
  | str s =>
    have r : v = .str (st s) := r
    subst r
    have e' : (if s.length ≤ sizeLine then some ((s.length : Int) != 0) else none) = some b := e
    by_cases hs : s.length ≤ sizeLine
    · rw [if_pos hs] at e'
      cases e'
      exact ⟨hs, rfl⟩
    · rw [if_neg hs] at e'
      cases e'
  | lst xs =>
    cases e
    obtain ⟨a, vs, rfl, s, rs⟩ := r
    exact .inl ⟨vs, .inl s, by rw [isEmpty_len rs.length]⟩
  | tup xs =>
    cases e
    have r' : Rep K F (.tup xs) v := r
    unfold Rep at r'
    obtain ⟨a, vs, rfl, s, rs⟩ := r'
    exact .inr (.inl ⟨vs, fh.sqT s, by rw [isEmpty_len rs.length]⟩)
  | dic ks xs =>
    cases e
    obtain ⟨a, vs, rfl, s, l, rs⟩ := r
    refine .inr (.inr ⟨_, s, ?_⟩)
    rw [isEmpty_len (show ks.length = (ks.zip vs).length by rw [List.length_zip, l, Nat.min_self])]
  | raw u => cases e
theorem t_tru {A : M D} (hk : c.K = X.K) (h : PE X e (tP c A)) (he : ∀ whole, isTrue e X.env whole = (do let v ← whole; standAt e.pos; holding [v] (truthy v))) : PT X e (tT c (tru A)) := by
  refine (pt_truth h he).imp fun σ H Q ⟨F, ρ, S, a⟩ => ⟨F, ρ, S, a.step fun d ρ1 x F1 H1 S1 r1 f1 h1 a1 => ?_⟩
  obtain ⟨b, e, q⟩ := a1.liftB S1
  exact ⟨b, hk ▸ truth_ok S1.fh r1 e, q⟩
/-! ### and, or, not, if .. else -/
def tand (A1 A2 : M Bool) : M Bool := A1.bind fun b => if b = true then A2 else fun ρ => .ok false ρ
def tor (A1 A2 : M Bool) : M Bool := A1.bind fun b => if b = true then fun ρ => .ok true ρ else A2
def tnot (A : M Bool) : M Bool := A.bind fun b ρ => .ok (!b) ρ
variable {A1 A2 : M Bool} {rest : List Expr}
theorem w_and1 (ha : PT X a (tT c A1)) : PW X (.BoolOp .And [a] pos) (tT c A1) := pw_and1 ha
theorem w_or1 (ha : PT X a (tT c A1)) : PW X (.BoolOp .Or [a] pos) (tT c A1) := pw_or1 ha
theorem w_and (ha : PT X a (tT c A1)) (hb : PW X (.BoolOp .And (b :: rest) pos) (tT c A2)) : PW X (.BoolOp .And (a :: b :: rest) pos) (tT c (tand A1 A2)) := by
  refine (pw_and ha hb).imp fun σ H Q ⟨F, ρ, S, k⟩ => ⟨F, ρ, S, k.step fun d ρ1 x F1 H1 S1 r1 f1 h1 a1 => ?_⟩
  have r1 : x = d := r1
  subst r1
  cases x with
  | true => exact ⟨F1, ρ1, S1, a1⟩
  | false => exact a1 false F1 H1 S1 (Sub.refl _) (Sub.refl _) rfl
theorem w_or (ha : PT X a (tT c A1)) (hb : PW X (.BoolOp .Or (b :: rest) pos) (tT c A2)) : PW X (.BoolOp .Or (a :: b :: rest) pos) (tT c (tor A1 A2)) := by
  refine (pw_or ha hb).imp fun σ H Q ⟨F, ρ, S, k⟩ => ⟨F, ρ, S, k.step fun d ρ1 x F1 H1 S1 r1 f1 h1 a1 => ?_⟩
  have r1 : x = d := r1
  subst r1
  cases x with
  | false => exact ⟨F1, ρ1, S1, a1⟩
  | true => exact a1 true F1 H1 S1 (Sub.refl _) (Sub.refl _) rfl
theorem t_not (ha : PT X a (tT c A1)) : PT X (.UnaryOp .Not a pos) (tT c (tnot A1)) := by
  refine (pt_not ha).imp fun σ H Q ⟨F, ρ, S, k⟩ => ⟨F, ρ, S, k.step fun d ρ1 x F1 H1 S1 r1 f1 h1 a1 => ?_⟩
  have r1 : x = d := r1
  subst r1
  exact a1 _ F1 H1 S1 (Sub.refl _) (Sub.refl _) rfl
/-- as values -/
def vand (A1 A2 : M Slot) : M Slot := (asB A1).bind fun b => if b = true then A2 else ret (false, .bl false)
def vor (A1 A2 : M Slot) : M Slot := (asB A1).bind fun b => if b = true then ret (false, .bl true) else A2
def vnot (A : M Slot) : M Slot := (asB A).bind fun b => ret (false, .bl (!b))
variable {E1 E2 : M Slot}
theorem asB_step {γ : Type} {β : Type} {R : Hp → Hp → L2.St → Env → γ → β → Prop} {F H : Hp} {σ : L2.St} {ρ : Env} {Q : β → Hp → Prop} {f : Bool → M γ} {Ψ : V → Hp → Prop} (S : SRc c F H σ ρ) (h : Aft c R F H σ (((asB E1).bind f) ρ) Q)
    (k : ∀ b ρ1 F1 H1, SRc c F1 H1 σ ρ1 → Sub F F1 → Sub H H1 → Aft c R F1 H1 σ (f b ρ1) Q → Ψ (.bl b) H1) : tE c E1 σ H Ψ := by
  have h' : tT c (asB E1) σ H (fun b H1 => Ψ (.bl b) H1) := ⟨F, ρ, S, h.step fun b ρ1 x F1 H1 S1 r1 f1 h1 a1 => by
    have r1 : x = b := r1
    subst r1
    exact k x ρ1 F1 H1 S1 f1 h1 a1⟩
  obtain ⟨F', ρ', S', h2⟩ := asB_tr h'
  refine ⟨F', ρ', S', ?_⟩
  cases e : E1 ρ' with
  | ok s ρ1 =>
    rw [e] at h2
    intro v F2 H2 S2 f2 g2 r2
    obtain ⟨k, ek, q⟩ := h2 v F2 H2 S2 f2 g2 r2
    rw [ek]; exact q
  | exc x ρ1 => rw [e] at h2; exact h2
  | bad => rw [e] at h2; exact h2
theorem v_one {op : BoolOp} (ha : PE X a (tE c E1)) : PE X (.BoolOp op [a] pos) (tE c E1) := pe_one ha
theorem v_and (ha : PE X a (tE c E1)) (hb : PE X (.BoolOp .And (b :: rest) pos) (tE c E2)) : PE X (.BoolOp .And (a :: b :: rest) pos) (tE c (vand E1 E2)) := by
  refine (pe_and ha hb).imp fun σ H Q ⟨F, ρ, S, k⟩ => asB_step S k fun b ρ1 F1 H1 S1 f1 h1 a1 => ⟨b, rfl, ?_⟩
  cases b with
  | true => exact ⟨F1, ρ1, S1, a1⟩
  | false => exact a1 _ F1 H1 S1 (Sub.refl _) (Sub.refl _) ⟨rfl, fun z => by cases z⟩
theorem v_or (ha : PE X a (tE c E1)) (hb : PE X (.BoolOp .Or (b :: rest) pos) (tE c E2)) : PE X (.BoolOp .Or (a :: b :: rest) pos) (tE c (vor E1 E2)) := by
  refine (pe_or ha hb).imp fun σ H Q ⟨F, ρ, S, k⟩ => asB_step S k fun b ρ1 F1 H1 S1 f1 h1 a1 => ⟨b, rfl, ?_⟩
  cases b with
  | false => exact ⟨F1, ρ1, S1, a1⟩
  | true => exact a1 _ F1 H1 S1 (Sub.refl _) (Sub.refl _) ⟨rfl, fun z => by cases z⟩
theorem v_not (ha : PE X a (tE c E1)) : PE X (.UnaryOp .Not a pos) (tE c (vnot E1)) := by
  refine (pe_not ha).imp fun σ H Q ⟨F, ρ, S, k⟩ => asB_step S k fun b ρ1 F1 H1 S1 f1 h1 a1 => ⟨b, rfl, ?_⟩
  exact a1 _ F1 H1 S1 (Sub.refl _) (Sub.refl _) ⟨rfl, fun z => by cases z⟩
def iff {α : Type} (T : M Bool) (E1 E2 : M α) : M α := T.bind fun b => if b = true then E1 else E2
theorem e_iff {t : Expr} (ht : PT X t (tT c A1)) (ha : PE X a (tE c E1)) (hb : PE X b (tE c E2)) : PE X (.IfExp t a b pos) (tE c (iff A1 E1 E2)) := by
  refine (pe_ifExp ht ha hb).imp fun σ H Q ⟨F, ρ, S, k⟩ => ⟨F, ρ, S, k.step fun d ρ1 x F1 H1 S1 r1 f1 h1 a1 => ?_⟩
  have r1 : x = d := r1
  subst r1
  cases x with
  | true => exact ⟨F1, ρ1, S1, a1⟩
  | false => exact ⟨F1, ρ1, S1, a1⟩
end
end PM
namespace PM
open PySem L2 PyProof.Rows

/-! ### lists that may be read -/
theorem _root_.L2.Inv.lstR {X : Cx} {pins : List (Addr × Obj)} {σ : L2.St} {H : Hp} {s : Shared} {l : Addr} {xs : List V} (I : Inv X pins σ H s) (hH : Rd H l (.lst xs)) :
    xs.length ≤ sizeLine ∧ ∃ (its : List Value) (n : Nat), Vals xs its ∧ xs.length = its.length ∧ s.heap.get? l = some { cls := .type "list", data := .seq its.toArray n } := by
  obtain ⟨z, its, n, r, e⟩ := hH.ok I.hok
  exact ⟨z, its, n, r, r.length, e⟩
def rCatR : R2 := fun x y H Q => ∃ l b xs zs, x = .ref l ∧ y = .ref b ∧ Rd H l (.lst xs) ∧ Rd H b (.lst zs) ∧ xs.length + zs.length ≤ sizeLine ∧ ∀ p, H p = none → Q (.ref p) (upd H p (.lst (xs ++ zs)))
theorem op_catR {X : Cx} : OpR X (binaryOp .Add) rCatR := by
  intro pins s σ H x y v u Q I rx ry h
  obtain ⟨l, b, xs, zs, rfl, rfl, hH, hB, hz, q⟩ := h
  cases rx
  cases ry
  obtain ⟨z, its, n, r, hl, e⟩ := I.lstR hH
  obtain ⟨z2, its2, n2, r2, hl2, e2⟩ := I.lstR hB
  refine PySem.P.add_list e e2 ?_ (by rw [List.size_toArray, List.size_toArray]; omega)
  have ea : its.toArray ++ its2.toArray = (its ++ its2).toArray := by simp
  rw [ea]
  exact ⟨.ref _, _, I.lnew (t' := s.toks) (r.append r2) (by rw [List.length_append]; omega), rfl, q _ I.fresh⟩
def rRepR : R2 := fun x y H Q => ∃ l k xs, x = .ref l ∧ y = .int k ∧ Rd H l (.lst xs) ∧ -(2 ^ 63) ≤ k ∧ k < 2 ^ 63 ∧ xs.length * k.toNat ≤ sizeLine ∧
  ∀ p, H p = none → Q (.ref p) (upd H p (.lst (List.replicate k.toNat xs).flatten))
theorem op_repR {X : Cx} : OpR X (binaryOp .Mult) rRepR := by
  intro pins s σ H x y v u Q I rx ry h
  obtain ⟨l, k, xs, rfl, rfl, hH, h1, h2, hz, q⟩ := h
  cases rx
  obtain ⟨t, rfl⟩ := ry
  obtain ⟨z, its, n, r, hl, e⟩ := I.lstR hH
  have hlen : its.toArray.size * k.toNat ≤ sizeLine := by rw [List.size_toArray, ← hl]; exact hz
  have hcap : ¬ its.toArray.size * k.toNat > (2 ^ 63 - 1) / 8 := by
    have : (sizeLine : Nat) ≤ (2 ^ 63 - 1) / 8 := by decide
    omega
  have hfit : ¬ (!Builtin.List.listFitsIndex k) = true := by
    rw [fitsIndex_both h1 h2]
    exact Bool.false_ne_true
  have hlong : ¬ Builtin.List.listTooLong (its.toArray.size * k.toNat) = true := by
    rw [notLongL hlen]
    exact Bool.false_ne_true
  have hnew : List.foldl (fun x1 x2 => x1 ++ x2) #[] (List.replicate (if its.toArray.isEmpty = true then 0 else k.toNat) its.toArray) = (List.replicate k.toNat its).flatten.toArray := by
    have f0 : ∀ m : Nat, List.foldl (fun x1 x2 => x1 ++ x2) #[] (List.replicate m its.toArray) = (List.replicate m its).flatten.toArray := fun m => by
      have := foldl_rep its m []
      rw [List.nil_append] at this
      exact this
    rw [f0]
    cases its with
    | nil => simp
    | cons a r' => rw [if_neg (by simp)]
  refine wpAny_binaryOp_repeat_ref (T := "list") (U := "int") (by decide) ⟨_, e, rfl⟩ (fun s' => typeIs_int s' k t) noFill_list_mul F.fills_int_mul F.slot_int_rmul repeat_list F.slot_int_index.lookup
    (call_meets F.slot_int_rmul (typeIs_int s k t) F.entry_int_rmul (F.args_int_rmul_2 _ _) (int___rmul___int_list k t l its.toArray n)
      ⟨e, rfl, ⟨_, e, rfl⟩, call_meets F.slot_list_mul ⟨_, e, rfl⟩ F.entry_list_mul (F.args_list_mul_2 _ _) (AutoListH.list___mul___list_int_3 l its.toArray n k t hfit hcap hlong) ⟨e, ?_⟩⟩)
  rw [hnew]
  exact ⟨.ref _, _, I.lnew (t' := s.toks) (r.rep k.toNat) (by rw [PyProof.Rows.lm_len_rep_flat, Nat.mul_comm]; exact hz), rfl, q _ I.fresh⟩

/-! ### what a result needs -/
section
variable {K : Fr} {F H : Hp}
theorem vn0 {d : D} {v : V} {Q : VK} (fh : Sub F H) (r : Rep K F d v) (k : ∀ v F' H', Grow F H F' H' → VN K H F' H' (false, d) v → Q v H') : Q v H := k v F H (Grow.refl fh) r
theorem vnI {i : Int} {Q : VK} (fh : Sub F H) (k : ∀ v F' H', Grow F H F' H' → VN K H F' H' (false, .int i) v → Q v H') : Q (.int i) H := k _ F H (Grow.refl fh) rfl
theorem vnB {i : Bool} {Q : VK} (fh : Sub F H) (k : ∀ v F' H', Grow F H F' H' → VN K H F' H' (false, .bl i) v → Q v H') : Q (.bl i) H := k _ F H (Grow.refl fh) rfl
theorem vnS {i : List Nat} {Q : VK} (fh : Sub F H) (k : ∀ v F' H', Grow F H F' H' → VN K H F' H' (false, .str i) v → Q v H') : Q (.str (st i)) H := k _ F H (Grow.refl fh) rfl
theorem vnL {p : Addr} {ds : List D} {vs : List V} {Q : VK} (fh : Sub F H) (hp : H p = none) (r : Reps K F ds vs) (k : ∀ v F' H', Grow F H F' H' → VN K H F' H' (true, .lst ds) v → Q v H') : Q (.ref p) (upd H p (.lst vs)) :=
  k _ F _ ⟨Sub.refl _, Sub.upd hp, fh.trans (Sub.upd hp), fun _ _ e => .inl e⟩ ⟨p, rfl, hp, fh.none hp, vs, upd_same, r⟩
theorem growT {p : Addr} {o : HO} (fh : Sub F H) (hp : H p = none) : Grow F H (upd F p o) (upd H p o) where
  f := Sub.upd (fh.none hp)
  h := Sub.upd hp
  fh := fun a u e => by
    by_cases z : a = p
    · subst z; rw [upd_same] at e ⊢; exact e
    · rw [upd_ne z] at e ⊢; exact fh a u e
  new := fun a u e => by
    by_cases z : a = p
    · subst z; exact .inr hp
    · rw [upd_ne z] at e; exact .inl e
theorem vnT {p : Addr} {ds : List D} {vs : List V} {Q : VK} (fh : Sub F H) (hp : H p = none) (r : Reps K F ds vs) (k : ∀ v F' H', Grow F H F' H' → VN K H F' H' (false, .tup ds) v → Q v H') : Q (.ref p) (upd H p (.tup vs)) :=
  k _ _ _ (growT fh hp) (by
    show Rep K _ (.tup ds) _
    unfold Rep
    exact ⟨p, vs, rfl, .inl (.inl upd_same), Reps.mono (Sub.upd (fh.none hp)) _ _ r⟩)
theorem pkTup {ds : List D} {v : V} (h : PkR K F H (.tup ds) v) : ∃ a vs, v = .ref a ∧ SqT K F a vs ∧ Reps K F ds vs := by
  have h' : Rep K F (.tup ds) v := h
  unfold Rep at h'
  exact h'
theorem repTup {ds : List D} {a : Addr} {vs : List V} (h : SqT K F a vs) (r : Reps K F ds vs) : Rep K F (.tup ds) (.ref a) := by
  unfold Rep; exact ⟨a, vs, rfl, h, r⟩
theorem reps_nil_iff {ds : List D} {vs : List V} (r : Reps K F ds vs) : vs = [] ↔ ds = [] := by
  have := r.length
  constructor
  · intro e; subst e; exact List.length_eq_zero_iff.mp (by simpa using this)
  · intro e; subst e; exact r.inv0

/-! ### + -/
def addD : D → D → Option Slot
  | .int i, .int j => some (false, .int (i + j))
  | .str s, .str t => if s.length + t.length ≤ sizeLine then some (false, .str (s ++ t)) else none
  | .lst a, .lst b => if a.length + b.length ≤ sizeLine then some (true, .lst (a ++ b)) else none
  | .tup a, .tup b => if a.length + b.length ≤ sizeLine then some (false, .tup (a ++ b)) else none
  | .int i, .bl k => some (false, .int (i + b2i k))
  | _, _ => none
def rAddS : R2 := fun x y H Q => ∃ i j, x = .str i ∧ y = .str j ∧ i.length + j.length ≤ sizeLine ∧ Q (.str (i ++ j)) H
def rAddB : R2 := fun x y H Q => ∃ i k, x = .int i ∧ y = .bl k ∧ Q (.int (i + b2i k)) H
def rAddI : R2 := rI0 fun i j => .int (i + j)
def rAddA (K : Fr) : R2 := fun x y H Q => rAddI x y H Q ∨ (rAddS x y H Q ∨ (rCatR x y H Q ∨ (rCatA K x y H Q ∨ rAddB x y H Q)))
theorem st_app (s t : List Nat) : st s ++ st t = st (s ++ t) := by
  show (⟨s.toArray ++ t.toArray⟩ : Str) = ⟨(s ++ t).toArray⟩
  simp
theorem op_addA {X : Cx} : OpR X (binaryOp .Add) (rAddA X.K) := OpR.or (r := rAddI) op_add (OpR.or (r := rAddS) op_add_str (OpR.or op_catR (OpR.or (r := rCatA X.K) op_catA (op_add_ib (X := X)))))
theorem ok_add : OpOk K addD (rAddA K) := by
  intro F H d1 d2 x y s Q fh r1 r2 e k
  unfold addD at e
  split at e
  · cases e
    exact .inl ⟨_, _, r1, r2, vnI fh k⟩
  · split at e
    · cases e
      rename_i s t hz
      exact .inr (.inl ⟨_, _, r1, r2, hz, by rw [st_app]; exact vnS fh k⟩)
    · cases e
  · split at e
    · cases e
      obtain ⟨a, vs, e1, h1, k1⟩ := r1
      obtain ⟨b, us, e2, h2, k2⟩ := r2
      rename_i hz
      exact .inr (.inr (.inl ⟨a, b, vs, us, e1, e2, h1, h2, by rw [← k1.length, ← k2.length]; exact hz, fun p hp => vnL fh hp (k1.append k2) k⟩))
    · cases e
  · split at e
    · cases e
      obtain ⟨a, vs, e1, h1, k1⟩ := pkTup r1
      obtain ⟨b, us, e2, h2, k2⟩ := pkTup r2
      rename_i hz
      refine .inr (.inr (.inr (.inl ⟨a, b, vs, us, e1, e2, fh.sqT h1, fh.sqT h2, by rw [← k1.length, ← k2.length]; exact hz, fun z => ?_, fun _ z => ?_, fun _ _ p hp => vnT fh hp (k1.append k2) k⟩)))
      · have z := (reps_nil_iff k1).mp z
        subst z
        exact vn0 fh (repTup h2 k2) k
      · have z := (reps_nil_iff k2).mp z
        subst z
        rw [List.append_nil] at k
        exact vn0 fh (repTup h1 k1) k
    · cases e
  · cases e
    exact .inr (.inr (.inr (.inr ⟨_, _, r1, r2, vnI fh k⟩)))
  · cases e

/-! ### the other operators of ints; list times int -/
def subD : D → D → Option Slot
  | .int i, .int j => some (false, .int (i - j))
  | _, _ => none
theorem ok_sub : OpOk K subD (rI0 fun i j => .int (i - j)) := by
  intro F H d1 d2 x y s Q fh r1 r2 e k
  unfold subD at e
  split at e
  · cases e
    exact ⟨_, _, r1, r2, vnI fh k⟩
  · cases e
/-- sizes for which a product of ints is known to be made -/
def mulOk (i j : Int) : Bool := decide (i.natAbs.log2 + j.natAbs.log2 < 1000000) || (decide (-(2 ^ 64) < i ∧ i < 2 ^ 64) || decide (-(2 ^ 64) < j ∧ j < 2 ^ 64))
def strRep (s : List Nat) (k : Nat) : List Nat := (List.replicate k s).flatten
def mulD : D → D → Option Slot
  | .int i, .int j => if mulOk i j then some (false, .int (i * j)) else none
  | .lst a, .int k => if a.length * k.toNat ≤ sizeLine ∧ -(2 ^ 63) ≤ k ∧ k < 2 ^ 63 then some (true, .lst (List.replicate k.toNat a).flatten) else none
  | .str a, .int k => if a.length * k.toNat ≤ sizeLine ∧ -(2 ^ 62) ≤ k ∧ k < 2 ^ 62 then some (false, .str (strRep a k.toNat)) else none
  | _, _ => none
def rMulI : R2 := rI (fun i j => CMulW i j ∨ CMul i j) fun i j => .int (i * j)
def rMulS : R2 := fun x y H Q => ∃ a k, x = .str (st a) ∧ y = .int k ∧ a.length * k.toNat ≤ sizeLine ∧ -(2 ^ 62) ≤ k ∧ k < 2 ^ 62 ∧ Q (.str (st (strRep a k.toNat))) H
theorem fold_reps (a : List Nat) : ∀ (k : Nat) (acc : List Nat), List.foldl (fun x1 x2 => x1 ++ x2) acc.toArray (List.replicate k a.toArray) = (acc ++ (List.replicate k a).flatten).toArray
  | 0, acc => by simp
  | k + 1, acc => by
    rw [List.replicate_succ, List.foldl_cons, List.append_toArray, fold_reps a k, List.replicate_succ, List.flatten_cons, List.append_assoc]
theorem txt_mul {a : List Nat} {k : Int} : Txt.mul (st a) k = st (strRep a k.toNat) := by
  unfold Txt.mul strRep
  by_cases h : k < 1
  · rw [if_pos h, show k.toNat = 0 by omega]
    rfl
  · rw [if_neg h]
    by_cases h2 : k = 1
    · subst h2
      simp [st]
    · by_cases h3 : a = []
      · subst h3
        simp [st, Str.length]
      · have h3' : a.length ≠ 0 := fun z => h3 (List.length_eq_zero_iff.mp z)
        rw [if_neg (by simp [st, Str.length, h2, h3])]
        have := fold_reps a k.toNat []
        rw [List.nil_append] at this
        show Str.mk _ = Str.mk _
        rw [show (#[] : Array Nat) = ([] : List Nat).toArray from rfl]
        rw [show (st a).cps = a.toArray from rfl, this]
theorem op_mulS {X : Cx} : OpR X (binaryOp .Mult) rMulS := by
  intro pins s σ H x y v u Q I rx ry h
  obtain ⟨a, k, rfl, rfl, hz, h1, h2, q⟩ := h
  obtain ⟨t, rfl⟩ := rx
  obtain ⟨t', rfl⟩ := ry
  have hl : (st a).length = a.length := by simp [st, Str.length]
  refine SB.mul ⟨?_, fun g1 g2 => ?_, fun g1 g2 => ?_⟩ fun t' k' => ⟨.str (st (strRep a k.toNat)), H, I.tok _, ⟨t', by rw [txt_mul]⟩, q⟩
  · have e1 : decide (k < -(2 ^ 63 : Int)) = false := decide_eq_false (by omega)
    have e2 : decide (k ≥ 2 ^ 63) = false := decide_eq_false (by omega)
    rw [e1, e2, Bool.or_false]
  · rw [hl]
    have g : (a.length : Int) * k ≤ 16777216 := by
      have : ((a.length * k.toNat : Nat) : Int) ≤ 16777216 := by
        have : (sizeLine : Nat) = 16777216 := rfl
        omega
      rw [Int.natCast_mul, Int.toNat_of_nonneg (by omega)] at this
      exact this
    have g3 : ((2 : Int) ^ 63 - 1) / k ≥ 1 := by
      have : (1 : Int) ≤ ((2 : Int) ^ 63 - 1) / k := by
        rw [Int.le_ediv_iff_mul_le (by omega)]
        omega
      exact this
    have : (a.length : Int) ≤ ((2 : Int) ^ 63 - 1) / k := by
      rw [Int.le_ediv_iff_mul_le (by omega)]
      omega
    omega
  · rw [hl]
    unfold Builtin.Str.tooLong
    exact decide_eq_false (by omega)
def rMulA : R2 := fun x y H Q => rMulI x y H Q ∨ (rRepR x y H Q ∨ rMulS x y H Q)
theorem op_mulI2 {X : Cx} : OpR X (binaryOp .Mult) rMulI := by
  intro pins s σ H x y v u Q I rx ry h
  obtain ⟨i, j, e1, e2, hc | hc, q⟩ := h
  · exact op_mulW pins s σ H x y v u Q I rx ry ⟨i, j, e1, e2, hc, q⟩
  · exact op_mul pins s σ H x y v u Q I rx ry ⟨i, j, e1, e2, hc, q⟩
theorem op_mulA {X : Cx} : OpR X (binaryOp .Mult) rMulA := OpR.or (r := rMulI) op_mulI2 (OpR.or op_repR op_mulS)
theorem Reps.rep {ds : List D} {vs : List V} (r : Reps K F ds vs) : ∀ k : Nat, Reps K F (List.replicate k ds).flatten (List.replicate k vs).flatten
  | 0 => Reps.nil
  | k + 1 => by
    rw [List.replicate_succ, List.replicate_succ, List.flatten_cons, List.flatten_cons]
    exact r.append (Reps.rep r k)
theorem mulOk_c {i j : Int} (h : mulOk i j = true) : CMulW i j ∨ CMul i j := by
  unfold mulOk at h
  rcases Bool.or_eq_true_iff.mp h with h | h
  · exact .inl (of_decide_eq_true (p := _ < 1000000) h)
  · rcases Bool.or_eq_true_iff.mp h with h | h
    · exact .inr (.inl (of_decide_eq_true h))
    · exact .inr (.inr (of_decide_eq_true h))
theorem ok_mul : OpOk K mulD rMulA := by
  intro F H d1 d2 x y s Q fh r1 r2 e k
  unfold mulD at e
  split at e
  · split at e
    · cases e
      rename_i hm
      exact .inl ⟨_, _, r1, r2, mulOk_c hm, vnI fh k⟩
    · cases e
  · split at e
    · cases e
      rename_i hz
      obtain ⟨a, vs, e1, h1, k1⟩ := r1
      exact .inr (.inl ⟨a, _, vs, e1, r2, h1, hz.2.1, hz.2.2, by rw [← k1.length]; exact hz.1, fun p hp => vnL fh hp (k1.rep _) k⟩)
    · cases e
  · split at e
    · cases e
      rename_i hz
      exact .inr (.inr ⟨_, _, r1, r2, hz.1, hz.2.1, hz.2.2, vnS fh k⟩)
    · cases e
  · cases e
def fdivD : D → D → Option Slot
  | .int i, .int j => if 0 < j ∧ j.natAbs.log2 < 9000 then some (false, .int (i / j)) else none
  | _, _ => none
theorem ok_fdiv : OpOk K fdivD (rI CDivW fun i j => .int (i / j)) := by
  intro F H d1 d2 x y s Q fh r1 r2 e k
  unfold fdivD at e
  split at e
  · split at e
    · cases e
      rename_i hm
      exact ⟨_, _, r1, r2, hm, vnI fh k⟩
    · cases e
  · cases e
def modD : D → D → Option Slot
  | .int i, .int j => if 0 < j then some (false, .int (i % j)) else none
  | _, _ => none
theorem ok_mod : OpOk K modD (rI (fun _ j => 0 < j) fun i j => .int (i % j)) := by
  intro F H d1 d2 x y s Q fh r1 r2 e k
  unfold modD at e
  split at e
  · split at e
    · cases e
      rename_i hm
      exact ⟨_, _, r1, r2, hm, vnI fh k⟩
    · cases e
  · cases e
def powD : D → D → Option Slot
  | .int i, .int j => if 0 ≤ j ∧ j ≤ 1000000 ∧ i.natAbs < 2 ^ 64 then some (false, .int (i ^ j.toNat)) else none
  | _, _ => none
theorem ok_pow : OpOk K powD (rI CPow fun i j => .int (i ^ j.toNat)) := by
  intro F H d1 d2 x y s Q fh r1 r2 e k
  unfold powD at e
  split at e
  · split at e
    · cases e
      rename_i hm
      exact ⟨_, _, r1, r2, hm, vnI fh k⟩
    · cases e
  · cases e
def shlD : D → D → Option Slot
  | .int i, .int j => if 0 ≤ j ∧ j ≤ 1000000 ∧ i.natAbs < 2 ^ 64 then some (false, .int (i * 2 ^ j.toNat)) else none
  | _, _ => none
theorem ok_shl : OpOk K shlD (rI CPow fun i j => .int (i * 2 ^ j.toNat)) := by
  intro F H d1 d2 x y s Q fh r1 r2 e k
  unfold shlD at e
  split at e
  · split at e
    · cases e
      rename_i hm
      exact ⟨_, _, r1, r2, hm, vnI fh k⟩
    · cases e
  · cases e
def shrD : D → D → Option Slot
  | .int i, .int j => if 0 ≤ j then some (false, .int (i / 2 ^ j.toNat)) else none
  | _, _ => none
theorem ok_shr : OpOk K shrD (rI (fun _ j => 0 ≤ j) fun i j => .int (i / 2 ^ j.toNat)) := by
  intro F H d1 d2 x y s Q fh r1 r2 e k
  unfold shrD at e
  split at e
  · split at e
    · cases e
      rename_i hm
      exact ⟨_, _, r1, r2, hm, vnI fh k⟩
    · cases e
  · cases e
def bitD (f : Int → Int → Int) : D → D → Option Slot
  | .int i, .int j => some (false, .int (f i j))
  | _, _ => none
theorem ok_bit {f : Int → Int → Int} : OpOk K (bitD f) (rI0 fun i j => .int (f i j)) := by
  intro F H d1 d2 x y s Q fh r1 r2 e k
  unfold bitD at e
  split at e
  · cases e
    exact ⟨_, _, r1, r2, vnI fh k⟩
  · cases e

/-! ### comparisons -/
def ltL : List Nat → List Nat → Bool
  | _, [] => false
  | [], _ :: _ => true
  | a :: r, b :: t => decide (a < b) || (decide (a = b) && ltL r t)
theorem ltL_iff : ∀ {a b : List Nat}, ltL a b = true ↔ a < b
  | [], [] => by simp [ltL]
  | _ :: _, [] => by simp [ltL]
  | [], _ :: _ => by simp [ltL]
  | a :: r, b :: t => by
    rw [List.cons_lt_cons_iff]
    simp [ltL, ltL_iff (a := r) (b := t)]
theorem ltL_eq {a b : List Nat} : decide (a < b) = ltL a b := by
  by_cases h : a < b
  · rw [decide_eq_true h, ltL_iff.mpr h]
  · rw [decide_eq_false h]
    cases q : ltL a b with
    | false => rfl
    | true => exact absurd (ltL_iff.mp q) h
def cmpD (f : Int → Int → Bool) (g : List Nat → List Nat → Bool) : D → D → Option Slot
  | .int i, .int j => some (false, .bl (f i j))
  | .str i, .str j => some (false, .bl (g i j))
  | _, _ => none
def rCmp (f : Int → Int → Bool) (g : List Nat → List Nat → Bool) : R2 := fun x y H Q => (∃ i j, x = .int i ∧ y = .int j ∧ Q (.bl (f i j)) H) ∨ (∃ i j, x = .str i ∧ y = .str j ∧ Q (.bl (g i.cps.toList j.cps.toList)) H)
theorem ok_cmp {f : Int → Int → Bool} {g : List Nat → List Nat → Bool} : OpOk K (cmpD f g) (rCmp f g) := by
  intro F H d1 d2 x y s Q fh r1 r2 e k
  unfold cmpD at e
  split at e
  · cases e
    exact .inl ⟨_, _, r1, r2, vnB fh k⟩
  · cases e
    exact .inr ⟨_, _, r1, r2, vnB fh k⟩
  · cases e
def ltD : D → D → Option Slot := cmpD (fun i j => decide (i < j)) ltL
def leD : D → D → Option Slot := cmpD (fun i j => decide (i ≤ j)) (fun a b => !ltL b a)
def gtD : D → D → Option Slot := cmpD (fun i j => decide (j < i)) (fun a b => ltL b a)
def geD : D → D → Option Slot := cmpD (fun i j => decide (j ≤ i)) (fun a b => !ltL a b)
theorem op_ltA {X : Cx} : OpR X (compareOp .Lt) (rCmp (fun i j => decide (i < j)) ltL) := OpR.or (r := fun x y H Q => ∃ i j, x = .int i ∧ y = .int j ∧ Q (.bl (decide (i < j))) H) op_lt fun pins s σ H x y v u Q I rx ry ⟨i, j, e1, e2, q⟩ => op_lt_str pins s σ H x y v u Q I rx ry ⟨i, j, e1, e2, by rw [ltL_eq]; exact q⟩
theorem op_leA {X : Cx} : OpR X (compareOp .LtE) (rCmp (fun i j => decide (i ≤ j)) (fun a b => !ltL b a)) := OpR.or (r := fun x y H Q => ∃ i j, x = .int i ∧ y = .int j ∧ Q (.bl (decide (i ≤ j))) H) op_le fun pins s σ H x y v u Q I rx ry ⟨i, j, e1, e2, q⟩ => op_le_str pins s σ H x y v u Q I rx ry ⟨i, j, e1, e2, by rw [ltL_eq]; exact q⟩
theorem op_gtA {X : Cx} : OpR X (compareOp .Gt) (rCmp (fun i j => decide (j < i)) (fun a b => ltL b a)) := OpR.or (r := fun x y H Q => ∃ i j, x = .int i ∧ y = .int j ∧ Q (.bl (decide (j < i))) H) op_gt fun pins s σ H x y v u Q I rx ry ⟨i, j, e1, e2, q⟩ => op_gt_str pins s σ H x y v u Q I rx ry ⟨i, j, e1, e2, by rw [ltL_eq]; exact q⟩
theorem op_geA {X : Cx} : OpR X (compareOp .GtE) (rCmp (fun i j => decide (j ≤ i)) (fun a b => !ltL a b)) := OpR.or (r := fun x y H Q => ∃ i j, x = .int i ∧ y = .int j ∧ Q (.bl (decide (j ≤ i))) H) op_ge fun pins s σ H x y v u Q I rx ry ⟨i, j, e1, e2, q⟩ => op_ge_str pins s σ H x y v u Q I rx ry ⟨i, j, e1, e2, by rw [ltL_eq]; exact q⟩
end
/-! ### == -/
mutual
def toPy : D → Option PyData
  | .non => some .none
  | .bl b => some (.bool b)
  | .int i => some (.int i)
  | .str s => some (.str (st s))
  | .lst ds => (toPys ds).map .list
  | .tup ds => (toPys ds).map .tuple
  | .dic _ _ => none
  | .raw _ => none
def toPys : List D → Option (List PyData)
  | [] => some []
  | d :: ds => (toPy d).bind fun p => (toPys ds).map fun ps => p :: ps
end
mutual
theorem dp_of {K : Fr} {F : Hp} : ∀ (d : D) (v : V) (p : PyData), Rep K F d v → toPy d = some p → Dp K F v p
  | .non, v, p, h, e => by cases e; have h : v = .non := h; subst h; exact .non
  | .bl b, v, p, h, e => by cases e; have h : v = .bl b := h; subst h; exact .bl b
  | .int i, v, p, h, e => by cases e; have h : v = .int i := h; subst h; exact .int i
  | .str s, v, p, h, e => by cases e; have h : v = .str (st s) := h; subst h; exact .str _
  | .lst ds, v, p, h, e => by
    unfold Rep at h
    obtain ⟨a, vs, rfl, s, r⟩ := h
    unfold toPy at e
    cases q : toPys ds with
    | none => rw [q] at e; cases e
    | some ps => rw [q] at e; cases e; exact .lst (.inl s) (dps_of ds vs ps r q)
  | .tup ds, v, p, h, e => by
    unfold Rep at h
    obtain ⟨a, vs, rfl, s, r⟩ := h
    unfold toPy at e
    cases q : toPys ds with
    | none => rw [q] at e; cases e
    | some ps => rw [q] at e; cases e; exact .tup s (dps_of ds vs ps r q)
  | .dic _ _, _, _, _, e => by unfold toPy at e; cases e
  | .raw _, _, _, _, e => by unfold toPy at e; cases e
theorem dps_of {K : Fr} {F : Hp} : ∀ (ds : List D) (vs : List V) (ps : List PyData), Reps K F ds vs → toPys ds = some ps → DpAll K F vs ps
  | [], vs, ps, h, e => by rw [h.inv0]; cases e; exact .nil
  | d :: ds, vs, ps, h, e => by
    obtain ⟨v, r, rfl, k1, k2⟩ := h.inv
    unfold toPys at e
    cases q : toPy d with
    | none => rw [q] at e; cases e
    | some p =>
      rw [q] at e
      cases q2 : toPys ds with
      | none => rw [q2] at e; cases e
      | some ps' => rw [q2] at e; cases e; exact .cons (dp_of d v p k1 q) (dps_of ds r ps' k2 q2)
end
section
variable {K : Fr} {F H : Hp}
def eqvD (d1 d2 : D) : Option Bool := match toPy d1, toPy d2 with
  | some a, some b => if SeqAt.shaped a && SeqAt.shaped b then some (PyData.eqv a b) else none
  | _, _ => none
def eqD (d1 d2 : D) : Option Slot := (eqvD d1 d2).map fun b => (false, .bl b)
def neD (d1 d2 : D) : Option Slot := (eqvD d1 d2).map fun b => (false, .bl (!b))
theorem eqvD_dp {d1 d2 : D} {x y : V} {b : Bool} (fh : Sub F H) (r1 : PkR K F H d1 x) (r2 : PkR K F H d2 y) (e : eqvD d1 d2 = some b) : ∃ d e, Dp K H x d ∧ Dp K H y e ∧ SeqAt.shaped d = true ∧ SeqAt.shaped e = true ∧ PyData.eqv d e = b := by
  unfold eqvD at e
  split at e
  · rename_i a b' ea eb
    split at e
    · rename_i hs
      cases e
      have hs := Bool.and_eq_true_iff.mp hs
      exact ⟨a, b', dp_of _ _ _ (r1.rep fh) ea, dp_of _ _ _ (r2.rep fh) eb, hs.1, hs.2, rfl⟩
    · cases e
  · cases e
theorem ok_eq : OpOk K eqD (rEqD K) := by
  intro F H d1 d2 x y s Q fh r1 r2 e k
  unfold eqD at e
  cases q : eqvD d1 d2 with
  | none => rw [q] at e; cases e
  | some b =>
    rw [q] at e
    cases e
    obtain ⟨a, c, h1, h2, h3, h4, rfl⟩ := eqvD_dp fh r1 r2 q
    exact ⟨a, c, h1, h2, h3, h4, vnB fh k⟩
theorem ok_ne : OpOk K neD (rNeD K) := by
  intro F H d1 d2 x y s Q fh r1 r2 e k
  unfold neD at e
  cases q : eqvD d1 d2 with
  | none => rw [q] at e; cases e
  | some b =>
    rw [q] at e
    cases e
    obtain ⟨a, c, h1, h2, h3, h4, rfl⟩ := eqvD_dp fh r1 r2 q
    exact ⟨a, c, h1, h2, h3, h4, vnB fh k⟩
/-! ### is None, is True, is False -/
def isNonD : D → Option Bool
  | .non => some true
  | .raw _ => none
  | _ => some false
def isD : D → D → Option Slot
  | d, .non => (isNonD d).map fun b => (false, .bl b)
  | _, _ => none
def isNotD : D → D → Option Slot
  | d, .non => (isNonD d).map fun b => (false, .bl (!b))
  | _, _ => none
theorem isNon_ok {d : D} {x : V} {b : Bool} (r : PkR K F H d x) (e : isNonD d = some b) : decide (x = .non) = b := by
  cases d with
  | non => cases e; have r : x = .non := r; subst r; rfl
  | bl _ => cases e; have r : x = .bl _ := r; subst r; rfl
  | int _ => cases e; have r : x = .int _ := r; subst r; rfl
  | str _ => cases e; have r : x = .str _ := r; subst r; rfl
  | lst _ => cases e; obtain ⟨a, _, rfl, _⟩ := r; rfl
  | tup _ => cases e; obtain ⟨a, _, rfl, _⟩ := pkTup r; rfl
  | dic _ _ => cases e; obtain ⟨a, _, rfl, _⟩ := r; rfl
  | raw _ => cases e
theorem ok_is : OpOk K isD (fun x y H Q => y = .non ∧ Q (.bl (decide (x = .non))) H) := by
  intro F H d1 d2 x y s Q fh r1 r2 e k
  unfold isD at e
  split at e
  · cases q : isNonD d1 with
    | none => rw [q] at e; cases e
    | some b =>
      rw [q] at e
      cases e
      exact ⟨r2, by rw [isNon_ok r1 q]; exact vnB fh k⟩
  · cases e
theorem ok_isNot : OpOk K isNotD (fun x y H Q => y = .non ∧ Q (.bl (!decide (x = .non))) H) := by
  intro F H d1 d2 x y s Q fh r1 r2 e k
  unfold isNotD at e
  split at e
  · cases q : isNonD d1 with
    | none => rw [q] at e; cases e
    | some b =>
      rw [q] at e
      cases e
      exact ⟨r2, by rw [isNon_ok r1 q]; exact vnB fh k⟩
  · cases e
/-! ### an item, a part -/
def ixD : D → D → Option Slot
  | .lst xs, .int i => (atI xs i).map fun d => (false, d)
  | .tup xs, .int i => (atI xs i).map fun d => (false, d)
  | .str s, .int i => if s.length ≤ sizeLine then (atI s i).map fun c => (false, .str [c]) else none
  | _, _ => none
theorem Reps.atI {ds : List D} {vs : List V} (r : Reps K F ds vs) {i : Int} {d : D} (h : L2.atI ds i = some d) : ∃ v, L2.atI vs i = some v ∧ Rep K F d v := by
  unfold L2.atI at h ⊢
  rw [← r.length]
  cases q : ixN ds.length i with
  | none => rw [q] at h; cases h
  | some j =>
    rw [q] at h
    exact r.get h
theorem ok_ix : OpOk K ixD (rIx K) := by
  intro F H d1 d2 x y s Q fh r1 r2 e k
  unfold ixD at e
  split at e
  · rename_i xs i
    cases q : L2.atI xs i with
    | none => rw [q] at e; cases e
    | some d =>
      rw [q] at e
      cases e
      obtain ⟨a, vs, rfl, h1, k1⟩ := r1
      obtain ⟨v, hv, rv⟩ := k1.atI q
      exact .inl ⟨a, vs, i, v, rfl, r2, .inl h1, hv, vn0 fh rv k⟩
  · rename_i xs i
    cases q : L2.atI xs i with
    | none => rw [q] at e; cases e
    | some d =>
      rw [q] at e
      cases e
      obtain ⟨a, vs, rfl, h1, k1⟩ := pkTup r1
      obtain ⟨v, hv, rv⟩ := k1.atI q
      exact .inr (.inl ⟨a, vs, i, v, rfl, r2, fh.sqT h1, hv, vn0 fh rv k⟩)
  · rename_i s i
    split at e
    · rename_i hz
      cases q : L2.atI s i with
      | none => rw [q] at e; cases e
      | some c =>
        rw [q] at e
        cases e
        exact .inr (.inr ⟨st s, i, c, r1, r2, hz, q, vnS fh k⟩)
    · cases e
  · cases e
def cut {α : Type} (xs : List α) (lo hi : Option Int) : List α := (xs.drop (HT.sIx xs.length 0 lo)).take (HT.sIx xs.length xs.length hi - HT.sIx xs.length 0 lo)
def sliceD : D → Option Int → Option Int → Option Slot
  | .lst xs, lo, hi => some (true, .lst (cut xs lo hi))
  | .tup xs, lo, hi => some (false, .tup (cut xs lo hi))
  | .str s, lo, hi => if s.length ≤ sizeLine then some (false, .str (cut s lo hi)) else none
  | _, _, _ => none
theorem Reps.cut {ds : List D} {vs : List V} (r : Reps K F ds vs) (lo hi : Option Int) : Reps K F (PM.cut ds lo hi) (cutV vs lo hi) := by
  unfold PM.cut cutV
  rw [← r.length]
  exact (r.drop _).take _
def rSl (K : Fr) : V → Option Int → Option Int → Hp → VK → Prop := fun x lo hi H Q => rSlL K x lo hi H Q ∨ (rSlA K x lo hi H Q ∨ rSlS x lo hi H Q)
theorem sl_all {X : Cx} : L2.SlR X (rSl X.K) := L2.SlR.or sl_list (L2.SlR.or sl_tupA sl_str)
theorem cut_str (s : List Nat) (lo hi : Option Int) : cutS (st s) lo hi = st (cut s lo hi) := rfl
theorem ok_sl {d : D} {x : V} {lo hi : Option Int} {s : Slot} {Q : VK} (fh : Sub F H) (r : PkR K F H d x) (e : sliceD d lo hi = some s) (k : ∀ v F' H', Grow F H F' H' → VN K H F' H' s v → Q v H') : rSl K x lo hi H Q := by
  unfold sliceD at e
  split at e
  · cases e
    obtain ⟨a, vs, rfl, h1, k1⟩ := r
    exact .inl ⟨a, vs, rfl, .inl h1, fun p hp => vnL fh hp (k1.cut lo hi) k⟩
  · cases e
    obtain ⟨a, vs, rfl, h1, k1⟩ := pkTup r
    rename_i xs
    refine .inr (.inl ⟨a, vs, rfl, fh.sqT h1, fun ⟨z1, z2⟩ => ?_, fun _ p hp => vnT fh hp (k1.cut lo hi) k⟩)
    have e2 : cut xs lo hi = xs := by
      unfold cut
      rw [← k1.length] at z1 z2
      rw [z1, z2]
      simp
    rw [e2] at k
    exact vn0 fh (repTup h1 k1) k
  · split at e
    · cases e
      rename_i hz
      exact .inr (.inr ⟨_, r, hz, vnS fh k⟩)
    · cases e
  · cases e
end
end PM
namespace PM
open PySem L2 PyProof.Rows

/-! ### items, parts -/
section
variable {X : Cx} {c : Ct} {e a b : Expr} {es : List Expr} {pos p2 : Pos}
theorem ix_imp {r : R2} {f : D → D → Option Slot} {A1 A2 : M D} (hr : IxR X r) (ok : OpOk c.K f r) (ha : PE X a (tP c A1)) (hb : PE X b (tP c A2)) (hs : PlainIx b) : PE X (.Subscript a b pos) (tE c (bin f A1 A2)) :=
  (pe_ix hr ha hb hs).imp fun _ _ _ h => op_tr ok h
theorem e_ix {A1 A2 : M D} (hk : c.K = X.K) (ha : PE X a (tP c A1)) (hb : PE X b (tP c A2)) (hs : PlainIx b) : PE X (.Subscript a b pos) (tE c (bin ixD A1 A2)) := ix_imp ix_seq (hk ▸ ok_ix) ha hb hs
/-- a part's end: none, or an int -/
def ono : M (Option Int) := fun ρ => .ok none ρ
def oin (A : M D) : M (Option Int) := A.bind fun d => M.lift (match d with | .int i => some (some i) | _ => none)
def rO : Hp → Hp → L2.St → Env → Option Int → Option Int → Prop := fun _ _ _ _ b b' => b' = b
abbrev tO' (c : Ct) (A : M (Option Int)) : TO := tG c rO A
theorem _root_.L2.PO.imp {o : Option Expr} {t t' : TO} (h : PO X o t) (k : ∀ σ H Q, t' σ H Q → t σ H Q) : PO X o t' := by
  exact ⟨fun pins s σ H Q I hw => h.run pins s σ H Q I (k σ H Q hw)⟩
theorem o_no : PO X none (tO' c ono) := po_none.imp fun σ H Q ⟨F, ρ, S, k⟩ => k none F H S (Sub.refl _) (Sub.refl _) rfl
theorem Aft.liftG {α : Type} {F H : Hp} {σ : L2.St} {ρ : Env} {o : Option α} {Q : α → Hp → Prop} (h : Aft c (fun _ _ _ _ (b b' : α) => b' = b) F H σ (M.lift o ρ) Q) (S : SRc c F H σ ρ) : ∃ b, o = some b ∧ Q b H := by
  cases o with
  | none => exact h.elim
  | some s => exact ⟨s, rfl, h s F H S (Sub.refl _) (Sub.refl _) rfl⟩
theorem o_in {A : M D} (h : PE X e (tP c A)) : PO X (some e) (tO' c (oin A)) := by
  refine (po_some h).imp fun σ H Q ⟨F, ρ, S, k⟩ => ⟨F, ρ, S, k.step fun d ρ1 x F1 H1 S1 r1 f1 h1 a1 => ?_⟩
  obtain ⟨b, e, q⟩ := Aft.liftG a1 S1
  cases d with
  | int i => cases e; exact ⟨i, r1, q⟩
  | _ => cases e
def sli (A : M D) (L U : M (Option Int)) : M Slot := A.bind fun d => L.bind fun lo => U.bind fun hi => M.lift (sliceD d lo hi)
theorem e_sli {lo hi : Option Expr} {A : M D} {L U : M (Option Int)} (hk : c.K = X.K) (ha : PE X e (tP c A)) (hl : PO X lo (tO' c L)) (hu : PO X hi (tO' c U)) : PE X (.Subscript e (.Slice lo hi none p2) pos) (tE c (sli A L U)) := by
  refine (pe_slice sl_all ha hl hu).imp fun σ H Q ⟨F, ρ, S, k⟩ => ⟨F, ρ, S, k.step fun d ρ1 x F1 H1 S1 r1 f1 h1 a1 => ⟨F1, ρ1, S1, a1.step fun l ρ2 l' F2 H2 S2 r2 f2 h2 a2 => ⟨F2, ρ2, S2, a2.step fun u ρ3 u' F3 H3 S3 r3 f3 h3 a3 => ?_⟩⟩⟩
  have r2 : l' = l := r2
  have r3 : u' = u := r3
  subst r2; subst r3
  obtain ⟨s, e, k⟩ := a3.lift S3
  exact hk ▸ ok_sl S3.fh (r1.mono (f2.trans f3) (h2.trans h3)) e k

/-! ### data handed on: a temporary list is frozen -/
def rF (c : Ct) : Hp → Hp → L2.St → Env → D → V → Prop := fun F _ _ _ d v => Rep c.K F d v
abbrev tF (c : Ct) (A : M D) : TE := tG c (rF c) A
theorem SR.freezeT {K : Fr} {B F0 F H : Hp} {σ : L2.St} {ρ : Env} {d : D} {v : V} (S : SR K B F0 F H σ ρ) (o : Own K B F H d v) (n : ∀ (i : Nat) (d' : D), ρ[i]? = some (some (true, d')) → σ[i]? ≠ some (some v)) :
    ∃ F', SR K B F0 F' H σ ρ ∧ Sub F F' ∧ Rep K F' d v := by
  obtain ⟨a, rfl, fa, ba, k⟩ := o
  obtain ⟨o, ho⟩ := k.there
  have hf : Sub F (upd F a o) := Sub.upd fa
  refine ⟨upd F a o, ⟨S.bh, fun b u q => ?_, S.f0.trans hf, fun b u q => ?_, S.len, fun j s q => ?_, S.sep⟩, hf, k.rep hf fun u hu => ?_⟩
  · by_cases hb : b = a
    · subst hb; rw [upd_same] at q; cases q; exact ho
    · rw [upd_ne hb] at q; exact S.fh b u q
  · by_cases hb : b = a
    · subst hb; exact .inr ba
    · rw [upd_ne hb] at q; exact S.new b u q
  · obtain ⟨v, h1, h2⟩ := S.sl j s q
    refine ⟨v, h1, ?_⟩
    obtain ⟨ow, dj⟩ := s
    cases ow with
    | false => exact Rep.mono hf dj v h2
    | true =>
      obtain ⟨p, rfl, fp, bp, kp⟩ := h2
      have np : p ≠ a := fun z => by
        subst z
        exact n j dj q h1
      exact ⟨p, rfl, by rw [upd_ne np]; exact fp, bp, kp.mono hf fun u hu => hu⟩
  · rw [ho] at hu; cases hu; exact upd_same
theorem VR.freeze {F H : Hp} {σ : L2.St} {ρ : Env} {s : Slot} {v : V} (S : SRc c F H σ ρ) (r : VR c F H σ ρ s v) : ∃ F', SRc c F' H σ ρ ∧ Sub F F' ∧ Rep c.K F' s.2 v := by
  obtain ⟨o, d⟩ := s
  cases o with
  | false => exact ⟨F, S, Sub.refl _, r.1⟩
  | true => exact S.freezeT r.1 (r.2 rfl)
theorem f_of {A : M Slot} (h : PE X e (tE c A)) : PE X e (tF c (pk A)) := by
  refine h.imp fun σ H Q ⟨F, ρ, S, k⟩ => ⟨F, ρ, S, k.step fun s ρ1 x F1 H1 S1 r1 f1 h1 a1 => ?_⟩
  obtain ⟨F', S', f', r'⟩ := VR.freeze S1 r1
  exact a1 x F' H1 S' f' (Sub.refl _) r'
theorem p_ofF {A : M D} (h : PE X e (tF c A)) : PE X e (tP c A) := by
  refine h.imp fun σ H Q ⟨F, ρ, S, k⟩ => ⟨F, ρ, S, ?_⟩
  cases q : A ρ with
  | ok d ρ1 => rw [q] at k; exact fun v F' H' S' f' h' r => k v F' H' S' f' h' (Rep.pk S'.fh r)
  | exc x ρ1 => rw [q] at k; exact k
  | bad => rw [q] at k; exact k
def rFs (c : Ct) : Hp → Hp → L2.St → Env → List D → List V → Prop := fun F _ _ _ d v => Reps c.K F d v
abbrev tFs (c : Ct) (A : M (List D)) : TA := tG c (rFs c) A
def anil : M (List D) := fun ρ => .ok [] ρ
def acons (A : M D) (R : M (List D)) : M (List D) := A.bind fun d => R.bind fun ds ρ => .ok (d :: ds) ρ
theorem a_nil : PA X [] (tFs c anil) := pa_nil.imp fun σ H Q ⟨F, ρ, S, k⟩ => k [] F H S (Sub.refl _) (Sub.refl _) Reps.nil
theorem a_cons {A : M D} {R : M (List D)} (h : PE X e (tF c A)) (t : PA X es (tFs c R)) (hs : starEach (e :: es) X.env = (false, eval e X.env) :: starEach es X.env := by rfl) : PA X (e :: es) (tFs c (acons A R)) := by
  refine (pa_cons h t hs).imp fun σ H Q ⟨F, ρ, S, k⟩ => ⟨F, ρ, S, k.step fun d ρ1 x F1 H1 S1 r1 f1 h1 a1 => ⟨F1, ρ1, S1, a1.step fun ds ρ2 xs F2 H2 S2 r2 f2 h2 a2 => ?_⟩⟩
  exact a2 (x :: xs) F2 H2 S2 (Sub.refl _) (Sub.refl _) (Reps.cons (Rep.mono f2 _ _ r1) r2)
theorem q_nil : PA X [] (tPs c anil) := pa_nil.imp fun σ H Q ⟨F, ρ, S, k⟩ => k [] F H S (Sub.refl _) (Sub.refl _) rfl
theorem q_cons {A : M D} {R : M (List D)} (h : PE X e (tP c A)) (t : PA X es (tPs c R)) (hs : starEach (e :: es) X.env = (false, eval e X.env) :: starEach es X.env := by rfl) : PA X (e :: es) (tPs c (acons A R)) := by
  refine (pa_cons h t hs).imp fun σ H Q ⟨F, ρ, S, k⟩ => ⟨F, ρ, S, k.step fun d ρ1 x F1 H1 S1 r1 f1 h1 a1 => ⟨F1, ρ1, S1, a1.step fun ds ρ2 xs F2 H2 S2 r2 f2 h2 a2 => ?_⟩⟩
  exact a2 (x :: xs) F2 H2 S2 (Sub.refl _) (Sub.refl _) ⟨x, xs, rfl, r1.mono f2 h2, r2⟩
/-! ### displays -/
def lstE (R : M (List D)) : M Slot := R.bind fun ds => M.lift (if ds.length ≤ sizeLine then some (true, .lst ds) else none)
def tupE (R : M (List D)) : M Slot := R.bind fun ds => M.lift (if ds.length ≤ sizeLine then some (false, .tup ds) else none)
theorem e_lst {R : M (List D)} (h : PA X es (tFs c R)) : PE X (.List es pos) (tE c (lstE R)) := by
  refine (pe_lst h).imp fun σ H Q ⟨F, ρ, S, k⟩ => ⟨F, ρ, S, k.step fun ds ρ1 xs F1 H1 S1 r1 f1 h1 a1 => ?_⟩
  obtain ⟨s, e, k⟩ := a1.lift S1
  split at e
  · cases e
    rename_i hz
    exact ⟨by rw [← Reps.length r1]; exact hz, fun p hp => vnL S1.fh hp r1 k⟩
  · cases e
theorem e_tup {R : M (List D)} {x1} (h : PA X es (tFs c R)) : PE X (.Tuple es x1 pos) (tE c (tupE R)) := by
  refine (pe_tup h).imp fun σ H Q ⟨F, ρ, S, k⟩ => ⟨F, ρ, S, k.step fun ds ρ1 xs F1 H1 S1 r1 f1 h1 a1 => ?_⟩
  obtain ⟨s, e, k⟩ := a1.lift S1
  split at e
  · cases e
    rename_i hz
    exact ⟨by rw [← Reps.length r1]; exact hz, fun p hp => vnT S1.fh hp r1 k⟩
  · cases e
/-! ### built-ins called by name -/
def blt (f : List D → Option Slot) (R : M (List D)) : M Slot := R.bind fun ds => M.lift (f ds)
theorem cb_tr {f : List D → Option Slot} {r : List V → Hp → VK → Prop} {R : M (List D)} (ok : CallOk c.K f r) {σ : L2.St} {H : Hp} {Q : VK} (h : tE c (blt f R) σ H Q) : tCB r (tPs c R) σ H Q := by
  obtain ⟨F, ρ, S, k⟩ := h
  refine ⟨F, ρ, S, k.step fun ds ρ1 xs F1 H1 S1 r1 f1 h1 a1 => ?_⟩
  obtain ⟨s, e, k⟩ := a1.lift S1
  exact ok F1 H1 ds xs s Q S1.fh r1 e k
theorem e_blt {id : String} {x : Str} {p : Pos} {f : List D → Option Slot} {r : List V → Hp → VK → Prop} {R : M (List D)} (hc : CallR X (.builtin id) r) (ok : CallOk c.K f r) (hg : Gl X x) (hm : X.mg x = none) (hv : bootBuiltins x = some (.builtin id)) (ha : PA X (e :: es) (tPs c R))
    (hn : x ≠ "__name__" := by decide) (hdb : (x == ("__debug__" : Str)) = false := by decide) (he : starEach (e :: es) X.env = (false, eval e X.env) :: starEach es X.env := by rfl) (hpl : (backTo pos (starEach es X.env)).any (·.1) = false := by rfl) :
    PE X (.Call (.Name x p) (e :: es) [] pos) (tE c (blt f R)) := (pe_callB hc hg hm hv ha hn hdb he hpl).imp fun _ _ _ h => cb_tr ok h
theorem e_typ {T : String} {x : Str} {p : Pos} {f : List D → Option Slot} {r : List V → Hp → VK → Prop} {R : M (List D)} (hc : CallR X (.type T) r) (ok : CallOk c.K f r) (hg : Gl X x) (hm : X.mg x = none) (hv : bootBuiltins x = some (.type T)) (ha : PA X (e :: es) (tPs c R))
    (hn : x ≠ "__name__" := by decide) (hdb : (x == ("__debug__" : Str)) = false := by decide) (he : starEach (e :: es) X.env = (false, eval e X.env) :: starEach es X.env := by rfl) (hpl : (backTo pos (starEach es X.env)).any (·.1) = false := by rfl) :
    PE X (.Call (.Name x p) (e :: es) [] pos) (tE c (blt f R)) := (pe_callTy hc hg hm hv ha hn hdb he hpl).imp fun _ _ _ h => cb_tr ok h
end
section
variable {K : Fr} {F H : Hp}
theorem PkRs.one {d : D} {xs : List V} (h : PkRs K F H [d] xs) : ∃ x, xs = [x] ∧ PkR K F H d x := by
  obtain ⟨v, r, rfl, k, h2⟩ := h
  have h2 : r = [] := h2
  subst h2
  exact ⟨v, rfl, k⟩
theorem PkRs.two {d d' : D} {xs : List V} (h : PkRs K F H [d, d'] xs) : ∃ x y, xs = [x, y] ∧ PkR K F H d x ∧ PkR K F H d' y := by
  obtain ⟨v, r, rfl, k, h2⟩ := h
  obtain ⟨y, rfl, k2⟩ := h2.one
  exact ⟨v, y, rfl, k, k2⟩
/-- len -/
def lenD : List D → Option Slot
  | [.str s] => if s.length ≤ sizeLine then some (false, .int s.length) else none
  | [.lst xs] => some (false, .int xs.length)
  | [.tup xs] => some (false, .int xs.length)
  | _ => none
def rLenA (K : Fr) : List V → Hp → VK → Prop := fun xs H Q => ∃ x n, xs = [x] ∧ LenV K x H n ∧ Q (.int n) H
theorem ok_len : CallOk K lenD (rLenA K) := by
  intro F H ds xs s Q fh r e k
  unfold lenD at e
  split at e
  · split at e
    · cases e
      rename_i hz
      obtain ⟨x, rfl, r1⟩ := r.one
      have r1 : x = .str (st _) := r1
      subst r1
      exact ⟨_, _, rfl, ⟨hz, rfl⟩, vnI fh k⟩
    · cases e
  · cases e
    obtain ⟨x, rfl, a, vs, rfl, h1, k1⟩ := r.one
    exact ⟨_, vs.length, rfl, .inl ⟨vs, .inl h1, rfl⟩, by rw [← k1.length]; exact vnI fh k⟩
  · cases e
    obtain ⟨x, rfl, r1⟩ := r.one
    obtain ⟨a, vs, rfl, h1, k1⟩ := pkTup r1
    exact ⟨_, vs.length, rfl, .inr ⟨vs, fh.sqT h1, rfl⟩, by rw [← k1.length]; exact vnI fh k⟩
  · cases e
theorem op_lenA {X : Cx} : CallR X (.builtin "len") (rLenA X.K) := call_len
/-- int of an int, a bool -/
def intD : List D → Option Slot
  | [.int i] => some (false, .int i)
  | [.bl b] => some (false, .int (if b then 1 else 0))
  | _ => none
def rInt1 : List V → Hp → VK → Prop := fun xs H Q => (∃ i, xs = [.int i] ∧ Q (.int i) H) ∨ ∃ k, xs = [.bl k] ∧ Q (.int (if k then 1 else 0)) H
theorem ok_int : CallOk K intD rInt1 := by
  intro F H ds xs s Q fh r e k
  unfold intD at e
  split at e
  · cases e
    obtain ⟨x, rfl, r1⟩ := r.one
    have r1 : x = .int _ := r1
    subst r1
    exact .inl ⟨_, rfl, vnI fh k⟩
  · cases e
    obtain ⟨x, rfl, r1⟩ := r.one
    have r1 : x = .bl _ := r1
    subst r1
    exact .inr ⟨_, rfl, vnI fh k⟩
  · cases e
theorem op_int1 {X : Cx} : CallR X (.type "int") rInt1 := call_int1
/-- str of an int -/
def chars (i : Int) : List Nat := (toString i : String).toList.map Char.toNat
def strD : List D → Option Slot
  | [.int i] => if i.natAbs.log2 < 1920 then some (false, .str (Str.ofString (toString i)).cps.toList) else none
  | _ => none
def rStr1 : List V → Hp → VK → Prop := fun xs H Q => ∃ i, xs = [.int i] ∧ i.natAbs.log2 < 1920 ∧ Q (.str (toString i)) H
theorem ok_str : CallOk K strD rStr1 := by
  intro F H ds xs s Q fh r e k
  unfold strD at e
  split at e
  · split at e
    · cases e
      rename_i hz
      obtain ⟨x, rfl, r1⟩ := r.one
      have r1 : x = .int _ := r1
      subst r1
      refine ⟨_, rfl, hz, ?_⟩
      refine k _ F H (Grow.refl fh) ?_
      show V.str _ = V.str (st (Str.ofString _).cps.toList)
      rfl
    · cases e
  · cases e
theorem op_str1 {X : Cx} : CallR X (.type "str") rStr1 := call_str_int
/-- list(..), tuple(..) of a list, a tuple -/
def listD : List D → Option Slot
  | [.lst xs] => some (true, .lst xs)
  | [.tup xs] => some (true, .lst xs)
  | _ => none
def rList1 (K : Fr) : List V → Hp → VK → Prop := fun xs H Q => ∃ p ys, xs = [.ref p] ∧ (SqL K H p ys ∨ SqT K H p ys) ∧ ∀ l, H l = none → Q (.ref l) (upd H l (.lst ys))
theorem ok_list : CallOk K listD (rList1 K) := by
  intro F H ds xs s Q fh r e k
  unfold listD at e
  split at e
  · cases e
    obtain ⟨x, rfl, a, vs, rfl, h1, k1⟩ := r.one
    exact ⟨a, vs, rfl, .inl (.inl h1), fun p hp => vnL fh hp k1 k⟩
  · cases e
    obtain ⟨x, rfl, r1⟩ := r.one
    obtain ⟨a, vs, rfl, h1, k1⟩ := pkTup r1
    exact ⟨a, vs, rfl, .inr (fh.sqT h1), fun p hp => vnL fh hp k1 k⟩
  · cases e
theorem op_list1 {X : Cx} : CallR X (.type "list") (rList1 X.K) := call_list_of
def tupD : List D → Option Slot
  | [.lst xs] => some (false, .tup xs)
  | [.tup xs] => some (false, .tup xs)
  | _ => none
def rTup1 (K : Fr) : List V → Hp → VK → Prop := fun xs H Q => ∃ a ys, xs = [.ref a] ∧ ((SqL K H a ys ∧ ∀ l, H l = none → Q (.ref l) (upd H l (.tup ys))) ∨ (SqT K H a ys ∧ Q (.ref a) H))
theorem ok_tup : CallOk K tupD (rTup1 K) := by
  intro F H ds xs s Q fh r e k
  unfold tupD at e
  split at e
  · cases e
    obtain ⟨x, rfl, a, vs, rfl, h1, k1⟩ := r.one
    exact ⟨a, vs, rfl, .inl ⟨.inl h1, fun p hp => vnT fh hp k1 k⟩⟩
  · cases e
    obtain ⟨x, rfl, r1⟩ := r.one
    obtain ⟨a, vs, rfl, h1, k1⟩ := pkTup r1
    exact ⟨a, vs, rfl, .inr ⟨fh.sqT h1, vn0 fh (repTup h1 k1) k⟩⟩
  · cases e
theorem op_tup1 {X : Cx} : CallR X (.type "tuple") (rTup1 X.K) := call_tuple_of
/-- isinstance of a built-in type -/
inductive Ty where | non | bl | int | str | lst | tup | dic
  deriving DecidableEq
def Ty.name : Ty → String
  | .non => "NoneType" | .bl => "bool" | .int => "int" | .str => "str" | .lst => "list" | .tup => "tuple" | .dic => "dict"
def Ty.sub (a b : Ty) : Bool := decide (a = b) || (decide (a = .bl) && decide (b = .int))
theorem Ty.kit : ∀ a b : Ty, b ≠ .non → kitB a.name b.name = some (a.sub b) := by
  intro a b h
  cases a <;> cases b <;> first | exact absurd rfl h | decide +kernel
def tyD : D → Option Ty
  | .non => some .non | .bl _ => some .bl | .int _ => some .int | .str _ => some .str | .lst _ => some .lst | .tup _ => some .tup | .dic _ _ => some .dic | .raw _ => none
theorem tyX {d : D} {x : V} {t : Ty} (fh : Sub F H) (r : PkR K F H d x) (e : tyD d = some t) : TyX K H x (.type t.name) := by
  cases d with
  | non => cases e; have r : x = .non := r; subst r; exact .base .non
  | bl _ => cases e; have r : x = .bl _ := r; subst r; exact .base (.bl _)
  | int _ => cases e; have r : x = .int _ := r; subst r; exact .base (.int _)
  | str _ => cases e; have r : x = .str _ := r; subst r; exact .base (.str _)
  | lst _ =>
    cases e
    obtain ⟨a, vs, rfl, h1, _⟩ := r
    rcases h1 with h1 | ⟨o, h1⟩
    · exact .base (.lst h1)
    · exact .base (.frz h1)
  | tup _ =>
    cases e
    obtain ⟨a, vs, rfl, h1, _⟩ := pkTup r
    rcases h1 with (h1 | ⟨o, h1⟩) | ⟨o, its, n, h1, h2, _⟩
    · exact .base (.tup (fh _ _ h1))
    · exact .fTuple (fh _ _ h1)
    · exact .kTuple h1 h2
  | dic _ _ =>
    cases e
    obtain ⟨a, vs, rfl, h1, _⟩ := r
    exact .base (.dK h1)
  | raw _ => cases e
def isiD (t : Ty) : List D → Option Slot
  | [d, .raw (.ty n)] => if n = t.name then (tyD d).map fun a => (false, .bl (a.sub t)) else none
  | _ => none
theorem ok_isi {t : Ty} (ht : t ≠ .non) : CallOk K (isiD t) (rIsi K) := by
  intro F H ds xs s Q fh r e k
  unfold isiD at e
  split at e
  · rename_i d n
    split at e
    · rename_i hn
      subst hn
      cases q : tyD d with
      | none => rw [q] at e; cases e
      | some a =>
        rw [q] at e
        cases e
        obtain ⟨x, y, rfl, r1, r2⟩ := r.two
        have r2 : y = .ty t.name := r2
        subst r2
        exact ⟨x, _, _, _, a.sub t, rfl, .ty _, tyX fh r1 q, kit_ty (Ty.kit a t ht), vnB fh k⟩
    · cases e
  · cases e
/-- isinstance(x, T) -/
def isi (t : Ty) (A : M D) : M Slot := A.bind fun d => M.lift ((tyD d).map fun a => (false, .bl (a.sub t)))
end
section
variable {X : Cx} {c : Ct} {a : Expr} {pos : Pos}
theorem p_ty (t : Ty) {p2 : Pos} (hg2 : Gl X (Str.ofString t.name)) (hm2 : X.mg (Str.ofString t.name) = none) (hv2 : bootBuiltins (Str.ofString t.name) = some (.type t.name))
    (hn2 : Str.ofString t.name ≠ "__name__" := by decide) (hd2 : (Str.ofString t.name == ("__debug__" : Str)) = false := by decide) :
    PE X (.Name (Str.ofString t.name) p2) (tP c (pk (cst (.raw (.ty t.name))))) := p_of (e_cst (pe_bltn (v := .ty t.name) hg2 hm2 hv2 rfl hn2 hd2) fun _ => rfl)
theorem e_isi {t : Ty} {A : M D} {e : Expr} (h : PE X e (tE c (blt (isiD t) (acons A (acons (pk (cst (.raw (.ty t.name)))) anil))))) : PE X e (tE c (isi t A)) := by
  refine h.imp fun σ H Q ⟨F, ρ, S, k⟩ => ⟨F, ρ, S, ?_⟩
  unfold blt isi acons pk cst ret anil M.bind M.lift at *
  cases q : A ρ with
  | ok d ρ1 =>
    rw [q] at k
    dsimp only at k ⊢
    unfold isiD
    simp only [if_true]
    exact k
  | exc x ρ1 => rw [q] at k; exact k
  | bad => rw [q] at k; exact k
end
end PM
namespace PM
open PySem L2 PyProof.Rows

/-! ### arguments of an own def: values, or owned lists of this frame, lent -/
def AR (K : Fr) (F H : Hp) (σ : L2.St) (bs : List Nat) (d : D) (v : V) : Prop := Rep K F d v ∨ ∃ i ∈ bs, σ[i]? = some (some v) ∧ ∃ a, v = .ref a ∧ At K F H d a
def ARs (K : Fr) (F H : Hp) (σ : L2.St) (bs : List Nat) : List D → List V → Prop
  | [], vs => vs = []
  | d :: ds, vs => ∃ v r, vs = v :: r ∧ AR K F H σ bs d v ∧ ARs K F H σ bs ds r
theorem AR.mono {K : Fr} {F H F' H' : Hp} {σ : L2.St} {bs bs' : List Nat} {d : D} {v : V} (h : AR K F H σ bs d v) (f : Sub F F') (g : Sub H H') (b : ∀ i ∈ bs, i ∈ bs') : AR K F' H' σ bs' d v := by
  rcases h with h | ⟨i, hi, e, a, ea, k⟩
  · exact .inl (Rep.mono f _ _ h)
  · exact .inr ⟨i, b i hi, e, a, ea, k.mono f fun o e => g a o e⟩
theorem ARs.mono {K : Fr} {F H F' H' : Hp} {σ : L2.St} {bs bs' : List Nat} (f : Sub F F') (g : Sub H H') (b : ∀ i ∈ bs, i ∈ bs') : ∀ {ds : List D} {vs : List V}, ARs K F H σ bs ds vs → ARs K F' H' σ bs' ds vs
  | [], _, h => h
  | d :: ds, _, ⟨v, r, e, k, h⟩ => ⟨v, r, e, k.mono f g b, ARs.mono f g b h⟩
theorem ARs.length {K : Fr} {F H : Hp} {σ : L2.St} {bs : List Nat} : ∀ {ds : List D} {vs : List V}, ARs K F H σ bs ds vs → ds.length = vs.length
  | [], vs, h => by have h : vs = [] := h; subst h; rfl
  | d :: ds, _, ⟨v, r, e, k, h⟩ => by subst e; rw [List.length_cons, List.length_cons, ARs.length h]
abbrev AM := M (List D × List Nat)
def rA (c : Ct) : Hp → Hp → L2.St → Env → List D × List Nat → List V → Prop := fun F H σ _ r vs => ARs c.K F H σ r.2 r.1 vs
abbrev tA (c : Ct) (A : AM) : TA := tG c (rA c) A
def cnil : AM := fun ρ => .ok ([], []) ρ
def cval (A : M D) (R : AM) : AM := A.bind fun d => R.bind fun r ρ => .ok (d :: r.1, r.2) ρ
def cvw (i : Nat) (R : AM) : AM := fun ρ => match ρ[i]? with
  | some (some (false, d)) => (R.bind fun r ρ => .ok (d :: r.1, r.2) ρ) ρ
  | some (some (true, d)) => (R.bind fun r ρ => .ok (d :: r.1, i :: r.2) ρ) ρ
  | _ => .bad
section
variable {X : Cx} {c : Ct} {e : Expr} {es : List Expr} {pos : Pos}
theorem c_nil : PA X [] (tA c cnil) := pa_nil.imp fun σ H Q ⟨F, ρ, S, k⟩ => k [] F H S (Sub.refl _) (Sub.refl _) rfl
theorem c_val {A : M D} {R : AM} (h : PE X e (tF c A)) (t : PA X es (tA c R)) (hs : starEach (e :: es) X.env = (false, eval e X.env) :: starEach es X.env := by rfl) : PA X (e :: es) (tA c (cval A R)) := by
  refine (pa_cons h t hs).imp fun σ H Q ⟨F, ρ, S, k⟩ => ⟨F, ρ, S, k.step fun d ρ1 x F1 H1 S1 r1 f1 h1 a1 => ⟨F1, ρ1, S1, a1.step fun r ρ2 xs F2 H2 S2 r2 f2 h2 a2 => ?_⟩⟩
  exact a2 (x :: xs) F2 H2 S2 (Sub.refl _) (Sub.refl _) ⟨x, xs, rfl, .inl (Rep.mono f2 _ _ r1), r2⟩
theorem c_vw {i : Nat} {x : Str} {R : AM} (h : PE X (.Name x pos) (tVar i)) (t : PA X es (tA c R)) (hs : starEach (.Name x pos :: es) X.env = (false, eval (.Name x pos) X.env) :: starEach es X.env := by rfl) : PA X (.Name x pos :: es) (tA c (cvw i R)) := by
  refine (pa_cons h t hs).imp fun σ H Q ⟨F, ρ, S, k⟩ => ?_
  unfold cvw at k
  split at k
  · rename_i d e
    obtain ⟨v, h1, h2⟩ := S.sl i _ e
    refine ⟨v, h1, F, ρ, S, k.step fun r ρ2 xs F2 H2 S2 r2 f2 g2 a2 => ?_⟩
    exact a2 (v :: xs) F2 H2 S2 (Sub.refl _) (Sub.refl _) ⟨v, xs, rfl, .inl (Rep.mono f2 _ _ h2), r2⟩
  · rename_i d e
    obtain ⟨v, h1, a, rfl, fa, ba, h2⟩ := S.sl i _ e
    refine ⟨_, h1, F, ρ, S, k.step fun r ρ2 xs F2 H2 S2 r2 f2 g2 a2 => ?_⟩
    exact a2 (.ref a :: xs) F2 H2 S2 (Sub.refl _) (Sub.refl _) ⟨.ref a, xs, rfl, .inr ⟨i, List.mem_cons_self, h1, a, rfl, h2.mono f2 fun o e => g2 a o e⟩, ARs.mono (Sub.refl _) (Sub.refl _) (fun i hi => List.mem_cons_of_mem _ hi) r2⟩
  · exact k.elim
end

/-! ### no list, no dict within -/
mutual
def noL : D → Bool
  | .non => true | .bl _ => true | .int _ => true | .str _ => true
  | .tup ds => noLs ds
  | .lst _ => false | .dic _ _ => false | .raw _ => false
def noLs : List D → Bool
  | [] => true
  | d :: ds => noL d && noLs ds
end
def noLS : Slot → Bool
  | (false, d) => noL d
  | (true, .lst ds) => noLs ds
  | (true, .dic _ ds) => noLs ds
  | (true, _) => true
def owned (ρ : Env) (i : Nat) : Bool := match ρ[i]? with | some (some (true, _)) => true | _ => false
def frzAll (bs : List Nat) (ρ : Env) : Env := ρ.mapIdx fun j s => if j ∈ bs then s.map fun p => (false, p.2) else s
section
variable {K : Fr} {B F0 F H Fc F' H' : Hp} {σ : L2.St} {ρ : Env} {bs : List Nat}
structure Lent (K : Fr) (F H Fc : Hp) (σ : L2.St) (ρ : Env) (bs : List Nat) : Prop where
  f : Sub F Fc
  h : Sub Fc H
  at_ : ∀ i ∈ bs, ∀ a o, σ[i]? = some (some (.ref a)) → H a = some o → Fc a = some o
  back : ∀ a o, Fc a = some o → F a = some o ∨ ∃ i ∈ bs, ∃ d, ρ[i]? = some (some (true, d)) ∧ σ[i]? = some (some (.ref a)) ∧ H a = some o ∧ At K F H d a
open Classical in
theorem lend (S : SR K B F0 F H σ ρ) (hb : bs.all (owned ρ) = true) : ∃ Fc, Lent K F H Fc σ ρ bs := by
  have own : ∀ i ∈ bs, ∃ d, ρ[i]? = some (some (true, d)) := fun i hi => by
    have := List.all_eq_true.mp hb i hi
    unfold owned at this
    split at this
    · rename_i d e; exact ⟨d, e⟩
    · cases this
  refine ⟨fun a => match F a with | some o => some o | none => if ∃ i ∈ bs, σ[i]? = some (some (.ref a)) then H a else none, fun a o e => ?_, fun a o e => ?_, fun i hi a o e1 e2 => ?_, fun a o e => ?_⟩
  · (try dsimp only); rw [e]
  · (try dsimp only at e)
    cases q : F a with
    | some u => rw [q] at e; cases e; exact S.fh a _ q
    | none =>
      rw [q] at e
      (try dsimp only at e)
      split at e
      · exact e
      · cases e
  · (try dsimp only)
    cases q : F a with
    | some u =>
      have := S.fh a u q
      rw [e2] at this
      cases this; rfl
    | none =>
      (try dsimp only)
      rw [if_pos ⟨i, hi, e1⟩]; exact e2
  · (try dsimp only at e)
    cases q : F a with
    | some u => rw [q] at e; cases e; exact .inl rfl
    | none =>
      rw [q] at e
      (try dsimp only at e)
      split at e
      · rename_i hx
        obtain ⟨i, hi, e1⟩ := hx
        obtain ⟨d, ed⟩ := own i hi
        obtain ⟨v, e2, a', rfl, _, _, k⟩ := S.sl i _ ed
        rw [e1] at e2; cases e2
        exact .inr ⟨i, hi, d, ed, e1, e, k⟩
      · cases e
theorem Lent.rep (L : Lent K F H Fc σ ρ bs) : ∀ {ds : List D} {vs : List V}, ARs K F H σ bs ds vs → Reps K Fc ds vs
  | [], vs, h => by have h : vs = [] := h; subst h; exact Reps.nil
  | d :: ds, _, ⟨v, r, e, k, h⟩ => by
    subst e
    refine Reps.cons ?_ (L.rep h)
    rcases k with k | ⟨i, hi, e, a, rfl, k⟩
    · exact Rep.mono L.f _ _ k
    · exact k.rep L.f fun o ho => L.at_ i hi a o e ho
/-- what came back holds none of what was lent -/
theorem Lent.keep (L : Lent K F H Fc σ ρ bs) (fh : Sub F H) (g : Grow Fc H F' H') : ∃ Fn, Grow F H Fn H' ∧ (∀ a, F' a = none → Fn a = none) ∧ (∀ a o, Fn a = some o → F' a = some o) ∧ ∀ a o, F' a = some o → (∀ vs, o ≠ .lst vs) → (∀ kvs, o ≠ .dK kvs) → Fn a = some o := by
  have back : ∀ a o, (match F a with | some o => some o | none => if (Fc a).isNone then F' a else none) = some o → F' a = some o := fun a o e => by
    cases q : F a with
    | some u => rw [q] at e; cases e; exact g.f a _ (L.f a _ q)
    | none =>
      rw [q] at e
      (try dsimp only at e)
      split at e
      · exact e
      · cases e
  refine ⟨fun a => match F a with | some o => some o | none => if (Fc a).isNone then F' a else none, ⟨fun a o e => ?_, g.h, fun a o e => ?_, fun a o e => ?_⟩, fun a e => ?_, back, fun a o e n1 n2 => ?_⟩
  · (try dsimp only); rw [e]
  · exact g.fh a o (back a o e)
  · (try dsimp only at e)
    cases q : F a with
    | some u => rw [q] at e; cases e; exact .inl rfl
    | none =>
      rw [q] at e
      (try dsimp only at e)
      split at e
      · rename_i hn
        rcases g.new a o e with z | z
        · rw [z] at hn; cases hn
        · exact .inr z
      · cases e
  · (try dsimp only)
    cases q : F a with
    | some u => rw [g.f a _ (L.f a _ q)] at e; cases e
    | none =>
      (try dsimp only)
      split
      · exact e
      · rfl
  · (try dsimp only)
    cases q : F a with
    | some u =>
      have := g.f a _ (L.f a _ q)
      rw [e] at this; cases this; rfl
    | none =>
      (try dsimp only)
      cases q2 : Fc a with
      | none => exact e
      | some u =>
        rcases L.back a u q2 with z | ⟨i, hi, d, _, _, hu, k⟩
        · rw [q] at z; cases z
        · have hF := g.f a u q2
          rw [e] at hF; cases hF
          cases d with
          | lst ds =>
            obtain ⟨vs, h1, _⟩ := k
            rw [hu] at h1; cases h1
            exact absurd rfl (n1 vs)
          | dic ks ds =>
            obtain ⟨vs, h1, _⟩ := k
            rw [hu] at h1; cases h1
            exact absurd rfl (n2 _)
          | _ => exact k.elim
mutual
theorem Rep.thin {K : Fr} {F' Fn : Hp} (h : ∀ a o, F' a = some o → (∀ vs, o ≠ .lst vs) → (∀ kvs, o ≠ .dK kvs) → Fn a = some o) : ∀ (d : D) (v : V), noL d = true → Rep K F' d v → Rep K Fn d v
  | .non, _, _, k => k
  | .bl _, _, _, k => k
  | .int _, _, _, k => k
  | .str _, _, _, k => k
  | .tup ds, v, n, k => by
    unfold Rep at k ⊢
    obtain ⟨a, vs, e, s, r⟩ := k
    refine ⟨a, vs, e, ?_, Reps.thin h ds vs (by unfold noL at n; exact n) r⟩
    rcases s with (s | ⟨o, s⟩) | s
    · exact .inl (.inl (h a _ s (fun _ z => by cases z) fun _ z => by cases z))
    · exact .inl (.inr ⟨o, h a _ s (fun _ z => by cases z) fun _ z => by cases z⟩)
    · exact .inr s
  | .lst _, _, n, _ => by unfold noL at n; cases n
  | .dic _ _, _, n, _ => by unfold noL at n; cases n
  | .raw _, _, n, _ => by unfold noL at n; cases n
theorem Reps.thin {K : Fr} {F' Fn : Hp} (h : ∀ a o, F' a = some o → (∀ vs, o ≠ .lst vs) → (∀ kvs, o ≠ .dK kvs) → Fn a = some o) : ∀ (ds : List D) (vs : List V), noLs ds = true → Reps K F' ds vs → Reps K Fn ds vs
  | [], vs, _, k => by rw [k.inv0]; exact Reps.nil
  | d :: ds, vs, n, k => by
    obtain ⟨v, r, rfl, k1, k2⟩ := k.inv
    unfold noLs at n
    have n := Bool.and_eq_true_iff.mp n
    exact Reps.cons (Rep.thin h d v n.1 k1) (Reps.thin h ds r n.2 k2)
end
theorem frz_get {j : Nat} : (frzAll bs ρ)[j]? = (ρ[j]?).map fun s => if j ∈ bs then s.map fun p => (false, p.2) else s := by
  unfold frzAll
  rw [List.getElem?_mapIdx]
/-- what came back may hold what was lent: it is frozen -/
theorem SR.frzAll (S : SR K B F0 F H σ ρ) (L : Lent K F H Fc σ ρ bs) (g : Grow Fc H F' H') : SR K B F0 F' H' σ (PM.frzAll bs ρ) where
  bh := S.bh.trans g.h
  fh := g.fh
  f0 := S.f0.trans (L.f.trans g.f)
  new := fun a o e => by
    rcases g.new a o e with z | z
    · rcases L.back a o z with z | ⟨i, hi, d, e1, e2, _, _⟩
      · exact S.new a o z
      · obtain ⟨v, e3, p, rfl, _, bp, _⟩ := S.sl i _ e1
        rw [e2] at e3; cases e3
        exact .inr bp
    · exact .inr (S.bh.none z)
  len := by unfold PM.frzAll; rw [List.length_mapIdx]; exact S.len
  sl := fun j s e => by
    rw [frz_get] at e
    cases q : ρ[j]? with
    | none => rw [q] at e; cases e
    | some s0 =>
      rw [q] at e
      have e : (if j ∈ bs then s0.map fun p => (false, p.2) else s0) = some s := Option.some.inj e
      cases s0 with
      | none =>
        split at e <;> cases e
      | some s0 =>
        obtain ⟨v, h1, h2⟩ := S.sl j _ q
        refine ⟨v, h1, ?_⟩
        by_cases hj : j ∈ bs
        · rw [if_pos hj] at e
          have e : (false, s0.2) = s := Option.some.inj e
          subst e
          obtain ⟨o, d⟩ := s0
          cases o with
          | false => exact Rep.mono (L.f.trans g.f) d v h2
          | true =>
            obtain ⟨a, rfl, _, _, k⟩ := h2
            exact k.rep (L.f.trans g.f) fun o ho => g.f a o (L.at_ j hj a o h1 ho)
        · rw [if_neg hj] at e
          have e := Option.some.inj e
          subst e
          obtain ⟨o, d⟩ := s0
          cases o with
          | false => exact Rep.mono (L.f.trans g.f) d v h2
          | true =>
            obtain ⟨a, rfl, fa, ba, k⟩ := h2
            refine ⟨a, rfl, ?_, ba, k.mono (L.f.trans g.f) fun o ho => g.h a o ho⟩
            cases q2 : F' a with
            | none => rfl
            | some u =>
              obtain ⟨o, ho⟩ := k.there
              rcases g.new a u q2 with z | z
              · rcases L.back a u z with z | ⟨i, hi, d', e1, e2, _, _⟩
                · rw [fa] at z; cases z
                · have := S.sep i j a d' d e1 q e2 h1
                  subst this
                  exact absurd hi hj
              · rw [ho] at z; cases z
  sep := fun i j p di dj e1 e2 e3 e4 => by
    have get : ∀ {j : Nat} {d : D}, (PM.frzAll bs ρ)[j]? = some (some (true, d)) → ρ[j]? = some (some (true, d)) := fun {j d} e => by
      rw [frz_get] at e
      cases q : ρ[j]? with
      | none => rw [q] at e; cases e
      | some s0 =>
        rw [q] at e
        have e : (if j ∈ bs then s0.map fun p => (false, p.2) else s0) = some (true, d) := Option.some.inj e
        by_cases hj : j ∈ bs
        · rw [if_pos hj] at e
          cases s0 with
          | none => cases e
          | some s0 => cases e
        · rw [if_neg hj] at e; rw [e]
    exact S.sep i j p di dj (get e1) (get e2) e3 e4
end

/-! ### the promise of a def by its function -/
def spF (K : Fr) (mg : Str → Option Value) (f : FM) (n : Nat) : Sp := fun vs H Q E => vs.length = n ∧ ∃ F ds, Sub F H ∧ Reps K F ds vs ∧ match f ds with
  | .ok s => ∀ v F' H', Grow F H F' H' → VN K H F' H' s v → Q v H'
  | .exc e => ∀ F' H' cls d, Grow F H F' H' → XR K mg F' H' e cls d → E cls d H'
  | .bad => False
def callE (f : FM) (R : AM) : M Slot := R.bind fun r ρ => if r.2.all (owned ρ) then (match f r.1 with
    | .ok s => if r.2.isEmpty || noLS s then .ok s ρ else .ok s (frzAll r.2 ρ)
    | .exc e => if r.2.isEmpty || noLs (e.fs.map (·.2)) then .exc e ρ else .exc e (frzAll r.2 ρ)
    | .bad => .bad) else .bad
section
variable {X : Cx} {c : Ct} {e : Expr} {es : List Expr} {pos p : Pos} {k n : Nat} {fa : Addr} {fd : FuncData} {ps : List Str} {f : FM} {R : AM} {x : Str}
theorem Lent.nil {K : Fr} {F H Fc : Hp} {σ : L2.St} {ρ : Env} (L : Lent K F H Fc σ ρ []) {F' H' : Hp} (g : Grow Fc H F' H') : Grow F H F' H' := ⟨L.f.trans g.f, g.h, g.fh, fun a o e => by
  rcases g.new a o e with z | z
  · rcases L.back a o z with z | ⟨i, hi, _⟩
    · exact .inl z
    · cases hi
  · exact .inr z⟩
theorem call_tr (hK : c.K = X.K) (hM : c.mg = X.mg) (hn : ∀ ds, f ds ≠ .bad → ds.length = n) {σ : L2.St} {H : Hp} {Q : VK} (h : tE c (callE f R) σ H Q) : tCallSD (spF X.K X.mg f n) [] (fun σ cls d H => c.W cls d σ H) (tA c R) σ H Q := by
  obtain ⟨F, ρ, S, k⟩ := h
  refine ⟨F, ρ, S, k.step fun r ρ1 vs F1 H1 S1 r1 f1 h1 a1 => ?_⟩
  obtain ⟨ds, bs⟩ := r
  dsimp only at a1
  rw [List.append_nil]
  by_cases hb : bs.all (owned ρ1) = true
  · rw [if_pos hb] at a1
    obtain ⟨Fc, L⟩ := lend S1 hb
    have r1 : ARs c.K F1 H1 σ bs ds vs := r1
    have rep : Reps c.K Fc ds vs := L.rep r1
    have nb : f ds ≠ .bad := fun z => by rw [z] at a1; exact a1
    refine ⟨by rw [← rep.length]; exact hn ds nb, Fc, ds, L.h, hK ▸ rep, ?_⟩
    cases q : f ds with
    | bad => exact absurd q nb
    | ok s =>
      rw [q] at a1
      dsimp only at a1 ⊢
      intro v F' H' g vn
      rw [← hK] at vn
      by_cases he : (bs.isEmpty || noLS s) = true
      · rw [if_pos he] at a1
        cases bs with
        | nil => exact a1 v F' H' (S1.grow (L.nil g)) (L.nil g).f g.h (vn.vr S1)
        | cons b0 br =>
          have hno : noLS s = true := by simpa using he
          obtain ⟨Fn, gn, hnone, hsome, thin⟩ := L.keep S1.fh g
          refine a1 v Fn H' (S1.grow gn) gn.f gn.h (VN.vr (c := c) (H := H1) ?_ S1)
          obtain ⟨o, d⟩ := s
          cases o with
          | false => exact Rep.thin thin d v hno vn
          | true =>
            obtain ⟨a, rfl, ha, fa, kk⟩ := vn
            refine ⟨a, rfl, ha, hnone a fa, ?_⟩
            cases d with
            | lst ds' =>
              obtain ⟨vs', e1, e2⟩ := kk
              exact ⟨vs', e1, Reps.thin thin _ _ hno e2⟩
            | dic ks ds' =>
              obtain ⟨vs', e1, e2, e3⟩ := kk
              exact ⟨vs', e1, e2, Reps.thin thin _ _ hno e3⟩
            | _ => exact kk.elim
      · rw [if_neg he] at a1
        refine a1 v F' H' (S1.frzAll L g) (L.f.trans g.f) g.h ?_
        obtain ⟨o, d⟩ := s
        cases o with
        | false => exact ⟨vn, fun z => by cases z⟩
        | true =>
          obtain ⟨a, rfl, ha, fa, kk⟩ := vn
          refine ⟨⟨a, rfl, fa, S1.bh.none ha, kk⟩, fun _ i d' e1 e2 => ?_⟩
          obtain ⟨v', h1, b, rfl, _, _, k'⟩ := (S1.frzAll L g).sl i _ e1
          rw [e2] at h1; cases h1
          rw [frz_get] at e1
          cases q2 : ρ1[i]? with
          | none => rw [q2] at e1; cases e1
          | some s0 =>
            cases s0 with
            | none => rw [q2] at e1; simp only [Option.map_some, Option.map_none, ite_self] at e1; cases e1
            | some s0 =>
              rw [q2] at e1
              obtain ⟨v0, h0, k0⟩ := S1.sl i _ q2
              rw [e2] at h0; cases h0
              obtain ⟨o0, d0⟩ := s0
              cases o0 with
              | false =>
                have e1 := Option.some.inj e1
                split at e1 <;> cases e1
              | true =>
                obtain ⟨a', ea, _, _, k0⟩ := k0
                cases ea
                obtain ⟨o, ho⟩ := k0.there
                rw [ha] at ho; cases ho
    | exc x =>
      rw [q] at a1
      dsimp only at a1 ⊢
      intro F' H' cls d g xr
      rw [← hK, ← hM] at xr
      by_cases he : (bs.isEmpty || noLs (x.fs.map (·.2))) = true
      · rw [if_pos he] at a1
        cases bs with
        | nil => exact a1 F' H' cls d (S1.grow (L.nil g)) xr
        | cons b0 br =>
          have hno : noLs (x.fs.map (·.2)) = true := by simpa using he
          obtain ⟨Fn, gn, hnone, hsome, thin⟩ := L.keep S1.fh g
          refine a1 Fn H' cls d (S1.grow gn) ⟨xr.1, ?_⟩
          rcases xr.2 with z | ⟨dx, vs', e1, e2, e3⟩
          · exact .inl z
          · exact .inr ⟨dx, vs', e1, e2, Reps.thin thin _ _ hno e3⟩
      · rw [if_neg he] at a1
        exact a1 F' H' cls d (S1.frzAll L g) xr
  · rw [if_neg hb] at a1
    exact a1.elim
theorem e_call (G : FnOk X.prog X.w X.K X.mg X.base (CX X.prog X.w) k fa fd ps (spF X.K X.mg f n)) (hr : Room k X.A) (hK : c.K = X.K) (hM : c.mg = X.mg) (tk : Takes X c.W) (hn : ∀ ds, f ds ≠ .bad → ds.length = n) (hg : Gl X x) (hm : X.mg x = some (.ref fa)) (hkp : PySem.W.keepIn X.K (.ref fa) = true) (hb : Binds X.K fd ps [])
    (ha : PA X (e :: es) (tA c R)) (hdb : (x == ("__debug__" : Str)) = false := by decide) (he : starEach (e :: es) X.env = (false, eval e X.env) :: starEach es X.env := by rfl) (hpl : (backTo pos (starEach es X.env)).any (·.1) = false := by rfl) :
    PE X (.Call (.Name x p) (e :: es) [] pos) (tE c (callE f R)) :=
  (pe_callSD G hr hg hm hkp hb .nil (fun σ => passAt tk σ) ha hdb he hpl).imp fun _ _ _ h => call_tr hK hM hn h
end
end PM
namespace PM
open PySem L2 PyProof.Rows

/-! ### stores into slots -/
section
variable {K : Fr} {B F0 F H F' H' : Hp} {σ : L2.St} {ρ : Env}
theorem get_set {α : Type} {l : List α} {i j : Nat} {x y : α} (e : (l.set i x)[j]? = some y) : (j = i ∧ y = x) ∨ (j ≠ i ∧ l[j]? = some y) := by
  by_cases h : j = i
  · subst h
    rw [List.getElem?_set] at e
    simp only [if_true] at e
    split at e
    · cases e; exact .inl ⟨rfl, rfl⟩
    · cases e
  · rw [List.getElem?_set_ne (Ne.symm h)] at e
    exact .inr ⟨h, e⟩
theorem SR.lt (S : SR K B F0 F H σ ρ) {i : Nat} (h : i < ρ.length) : i < σ.length := by rw [S.len]; exact h
/-- a value goes to a slot -/
theorem SR.set (S : SR K B F0 F H σ ρ) (i : Nat) {s : Slot} {v : V} (r : SlR K B F H s v) (n : s.1 = true → ∀ (j : Nat) (d : D), ρ[j]? = some (some (true, d)) → σ[j]? ≠ some (some v)) : SR K B F0 F H (σ.set i (some v)) (ρ.set i (some s)) where
  bh := S.bh
  fh := S.fh
  f0 := S.f0
  new := S.new
  len := by simpa using S.len
  sl := fun j t e => by
    rcases get_set e with ⟨rfl, h⟩ | ⟨h, e⟩
    · cases h
      have hj : j < ρ.length := by
        have := (List.getElem?_eq_some_iff.mp e).1
        simpa using this
      exact ⟨v, by rw [List.getElem?_set_self (S.lt hj)], r⟩
    · obtain ⟨u, h1, h2⟩ := S.sl j t e
      exact ⟨u, by rw [List.getElem?_set_ne (Ne.symm h)]; exact h1, h2⟩
  sep := fun a b p da db e1 e2 e3 e4 => by
    rcases get_set e1 with ⟨h1, q1⟩ | ⟨h1, f1⟩
    · rcases get_set e2 with ⟨h2, q2⟩ | ⟨h2, f2⟩
      · rw [h1, h2]
      · rcases get_set e3 with ⟨_, q3⟩ | ⟨z, _⟩
        · rw [List.getElem?_set_ne (Ne.symm h2)] at e4
          cases q1
          cases q3
          exact absurd e4 (n rfl b db f2)
        · exact absurd h1 z
    · rw [List.getElem?_set_ne (Ne.symm h1)] at e3
      rcases get_set e2 with ⟨h2, q2⟩ | ⟨h2, f2⟩
      · rcases get_set e4 with ⟨_, q4⟩ | ⟨z, _⟩
        · cases q2
          cases q4
          exact absurd e3 (n rfl a da f1)
        · exact absurd h2 z
      · rw [List.getElem?_set_ne (Ne.symm h2)] at e4
        exact S.sep a b p da db f1 f2 e3 e4
theorem SR.setF (S : SR K B F0 F H σ ρ) (i : Nat) {d : D} {v : V} (r : Rep K F d v) : SR K B F0 F H (σ.set i (some v)) (ρ.set i (some (false, d))) := S.set i (s := (false, d)) r fun z => by cases z
/-- a slot forgotten -/
theorem SR.forget (S : SR K B F0 F H σ ρ) (i : Nat) {o : Option V} : SR K B F0 F H (σ.set i o) (ρ.set i none) where
  bh := S.bh
  fh := S.fh
  f0 := S.f0
  new := S.new
  len := by simpa using S.len
  sl := fun j t e => by
    rcases get_set e with ⟨rfl, h⟩ | ⟨h, e⟩
    · cases h
    · obtain ⟨u, h1, h2⟩ := S.sl j t e
      exact ⟨u, by rw [List.getElem?_set_ne (Ne.symm h)]; exact h1, h2⟩
  sep := fun a b p da db e1 e2 e3 e4 => by
    rcases get_set e1 with ⟨h1, q1⟩ | ⟨h1, e1⟩
    · cases q1
    · rcases get_set e2 with ⟨h2, q2⟩ | ⟨h2, e2⟩
      · cases q2
      · rw [List.getElem?_set_ne (Ne.symm h1)] at e3
        rw [List.getElem?_set_ne (Ne.symm h2)] at e4
        exact S.sep a b p da db e1 e2 e3 e4
/-- an owned list or dict is changed -/
theorem SR.upd (S : SR K B F0 F H σ ρ) {j : Nat} {d d' : D} {a : Addr} {o : HO} (e : ρ[j]? = some (some (true, d))) (ev : σ[j]? = some (some (.ref a))) (k : At K F (L2.upd H a o) d' a) : SR K B F0 F (L2.upd H a o) σ (ρ.set j (some (true, d'))) := by
  obtain ⟨v, e', b, rfl, fa, ba, k0⟩ := S.sl j _ e
  rw [ev] at e'; cases e'
  obtain ⟨o0, ho⟩ := k0.there
  have hj : j < ρ.length := (List.getElem?_eq_some_iff.mp e).1
  have upd_other : ∀ {p : Addr} {u : HO}, p ≠ a → H p = some u → L2.upd H a o p = some u := fun {p u} hp e => by rw [upd_ne hp]; exact e
  refine ⟨fun b u q => upd_other (ne_of_none q ba) (S.bh b u q), fun b u q => upd_other (ne_of_none q fa) (S.fh b u q), S.f0, S.new, by simpa using S.len, fun i t q => ?_, fun x y p dx dy q1 q2 q3 q4 => ?_⟩
  · rcases get_set q with ⟨rfl, h⟩ | ⟨h, q⟩
    · cases h
      exact ⟨_, ev, a, rfl, fa, ba, k⟩
    · obtain ⟨u, h1, h2⟩ := S.sl i t q
      refine ⟨u, h1, ?_⟩
      obtain ⟨ow, di⟩ := t
      cases ow with
      | false => exact h2
      | true =>
        obtain ⟨p, rfl, fp, bp, kp⟩ := h2
        have np : p ≠ a := fun z => by
          subst z
          exact h (S.sep i j p di d q e h1 ev)
        exact ⟨p, rfl, fp, bp, kp.mono (Sub.refl _) fun u hu => upd_other np hu⟩
  · have old : ∀ {x : Nat} {dx : D}, (ρ.set j (some (true, d')))[x]? = some (some (true, dx)) → ∃ dx', ρ[x]? = some (some (true, dx')) := fun {x dx} q => by
      rcases get_set q with ⟨rfl, h⟩ | ⟨h, q⟩
      · exact ⟨_, e⟩
      · exact ⟨_, q⟩
    obtain ⟨dx', q1⟩ := old q1
    obtain ⟨dy', q2⟩ := old q2
    exact S.sep x y p dx' dy' q1 q2 q3 q4
end

/-! ### targets -/
abbrev Tg := D → Env → Option Env
structure TgOk (K : Fr) (g : TG) (T : Tg) (js : List Nat) : Prop where
  run : ∀ (B F0 F H : Hp) (σ : L2.St) (ρ : Env) (d : D) (v : V) (ρ' : Env) (Q : L2.St → Hp → Prop), SR K B F0 F H σ ρ → Rep K F d v → T d ρ = some ρ' →
    (∀ σ', SR K B F0 F H σ' ρ' → σ'.length = σ.length → (∀ j, j ∉ js → σ'[j]? = σ[j]? ∧ ρ'[j]? = ρ[j]?) → Q σ' H) → g v σ H Q
def tgN (i : Nat) : Tg := fun d ρ => some (ρ.set i (some (false, d)))
theorem g_name {K : Fr} {i : Nat} : TgOk K (gName i) (tgN i) [i] := ⟨fun B F0 F H σ ρ d v ρ' Q S r e k => by
  cases e
  refine k _ (S.setF i r) (by simp) fun j hj => ?_
  have hj : j ≠ i := by simpa using hj
  exact ⟨List.getElem?_set_ne (Ne.symm hj), List.getElem?_set_ne (Ne.symm hj)⟩⟩
def tgs : List Tg → List D → Env → Option Env
  | [], [], ρ => some ρ
  | t :: ts, d :: ds, ρ => (t d ρ).bind (tgs ts ds)
  | _, _, _ => none
structure TgsOk (K : Fr) (n : Nat) (g : TGs) (T : List Tg) (js : List Nat) : Prop where
  run : ∀ (B F0 F H : Hp) (σ : L2.St) (ρ : Env) (ds : List D) (vs : List V) (ρ' : Env) (Q : L2.St → Hp → Prop), SR K B F0 F H σ ρ → Reps K F ds vs → tgs T ds ρ = some ρ' →
    (∀ σ', SR K B F0 F H σ' ρ' → σ'.length = σ.length → (∀ j, j ∉ js → σ'[j]? = σ[j]? ∧ ρ'[j]? = ρ[j]?) → Q σ' H) → g vs σ H Q
  len : T.length = n
theorem g_nil {K : Fr} : TgsOk K 0 gNil [] [] := ⟨fun B F0 F H σ ρ ds vs ρ' Q S r e k => (by
  cases ds with
  | nil => cases e; exact ⟨r.inv0, k σ S rfl fun _ _ => ⟨rfl, rfl⟩⟩
  | cons _ _ => cases e), rfl⟩
theorem g_cons {K : Fr} {n : Nat} {g : TG} {gs : TGs} {T : Tg} {Ts : List Tg} {js ks : List Nat} (h : TgOk K g T js) (t : TgsOk K n gs Ts ks) : TgsOk K (n + 1) (gCons g gs) (T :: Ts) (js ++ ks) := ⟨fun B F0 F H σ ρ ds vs ρ' Q S r e k => (by
  cases ds with
  | nil => cases e
  | cons d ds =>
    obtain ⟨v, rs, rfl, r1, r2⟩ := r.inv
    unfold tgs at e
    cases q : T d ρ with
    | none => rw [q] at e; cases e
    | some ρ1 =>
      rw [q] at e
      refine ⟨v, rs, rfl, h.run B F0 F H σ ρ d v ρ1 _ S r1 q fun σ1 S1 l1 k1 => t.run B F0 F H σ1 ρ1 ds rs ρ' _ S1 r2 e fun σ2 S2 l2 k2 => k σ2 S2 (l2.trans l1) fun j hj => ?_⟩
      have h1 : j ∉ js := fun z => hj (List.mem_append_left _ z)
      have h2 : j ∉ ks := fun z => hj (List.mem_append_right _ z)
      exact ⟨(k2 j h2).1.trans (k1 j h1).1, (k2 j h2).2.trans (k1 j h1).2⟩), by rw [List.length_cons, t.len]⟩
def tgT (ts : List Tg) : Tg := fun d ρ => match d with | .tup ds => tgs ts ds ρ | _ => none
theorem tgs_len : ∀ {T : List Tg} {ds : List D} {ρ ρ' : Env}, tgs T ds ρ = some ρ' → ds.length = T.length
  | [], [], _, _, _ => rfl
  | [], _ :: _, _, _, e => by cases e
  | _ :: _, [], _, _, e => by cases e
  | t :: ts, d :: ds, ρ, ρ', e => by
    unfold tgs at e
    cases q : t d ρ with
    | none => rw [q] at e; cases e
    | some ρ1 =>
      rw [q] at e
      rw [List.length_cons, List.length_cons, tgs_len e]
theorem g_tup {K : Fr} {n : Nat} {g : TGs} {T : List Tg} {js : List Nat} (h : TgsOk K n g T js) : TgOk K (gTup K n g) (tgT T) js := ⟨fun B F0 F H σ ρ d v ρ' Q S r e k => by
  cases d with
  | tup ds =>
    unfold Rep at r
    obtain ⟨a, vs, rfl, s, r⟩ := r
    exact ⟨a, vs, rfl, S.fh.sqT s, by rw [← r.length, tgs_len e, h.len], h.run B F0 F H σ ρ ds vs ρ' Q S r e k⟩
  | _ => cases e⟩

/-! ### what is walked -/
structure JOk (K : Fr) (C F1 : Hp) (J : It) (ds : List D) : Prop where
  go : ∀ i H, Sub C H → i < ds.length → J.go i H
  yld : ∀ i F H x H', Sub C H → Sub F1 F → Sub F H → i < ds.length → J.yld i H x H' → ∃ F' d, Grow F H F' H' ∧ ds[i]? = some d ∧ Rep K F' d x
  stop : ∀ i H, Sub C H → ds.length ≤ i → J.stop i H
def rJ (c : Ct) : Hp → Hp → L2.St → Env → List D → It → Prop := fun F H _ _ ds J => JOk c.K H F J ds
def rK (c : Ct) : Hp → Hp → L2.St → Env → List D → It → Prop := fun F _ _ _ ds J => JOk c.K F F J ds
abbrev tJ (c : Ct) (A : M (List D)) : TI := tG c (rJ c) A
abbrev tK (c : Ct) (A : M (List D)) : TI := tG c (rK c) A
theorem _root_.L2.PI.imp {X : Cx} {tg e : Expr} {t t' : TI} (h : PI X tg e t) (k : ∀ σ H Q, t' σ H Q → t σ H Q) : PI X tg e t' := ⟨fun pins s σ H R I hw => h.run pins s σ H R I (k σ H R hw)⟩
section
variable {K : Fr} {C F1 : Hp}
theorem jok_list {a : Addr} {ds : List D} {vs : List V} (hC : Rd C a (.lst vs)) (r : Reps K F1 ds vs) : JOk K C F1 (Itl K a) ds where
  go := fun i H h hi => by
    obtain ⟨v, hv, _⟩ := r.get (List.getElem?_eq_getElem hi)
    exact ⟨vs, v, .inl (h.rd hC), hv⟩
  yld := fun i F H x H' h f fh hi y => by
    obtain ⟨rfl, y⟩ := y
    obtain ⟨d, hd, hr⟩ := r.getV (y vs (.inl (h.rd hC)))
    exact ⟨F, d, Grow.refl fh, hd, Rep.mono f _ _ hr⟩
  stop := fun i H h hi => ⟨vs, .inl (h.rd hC), by rw [← r.length]; exact hi⟩
theorem jok_tup {a : Addr} {ds : List D} {vs : List V} (hC : SqT K C a vs) (r : Reps K F1 ds vs) : JOk K C F1 (Itt K a) ds where
  go := fun i H h hi => by
    obtain ⟨v, hv, _⟩ := r.get (List.getElem?_eq_getElem hi)
    exact ⟨vs, v, h.sqT hC, hv⟩
  yld := fun i F H x H' h f fh hi y => by
    obtain ⟨rfl, y⟩ := y
    obtain ⟨d, hd, hr⟩ := r.getV (y vs (h.sqT hC))
    exact ⟨F, d, Grow.refl fh, hd, Rep.mono f _ _ hr⟩
  stop := fun i H h hi => ⟨vs, h.sqT hC, by rw [← r.length]; exact hi⟩
def signs (s : List Nat) : List D := s.map fun c => .str [c]
theorem jok_str {s : List Nat} : JOk K C F1 (Its (st s)) (signs s) where
  go := fun i H h hi => by
    show i < (st s).cps.size
    simpa [signs, st] using hi
  yld := fun i F H x H' h f fh hi y => by
    obtain ⟨rfl, k, hk, rfl⟩ := y
    have hk' : s[i]? = some k := by simpa [st] using hk
    exact ⟨F, .str [k], Grow.refl fh, by unfold signs; rw [List.getElem?_map, hk']; rfl, rfl⟩
  stop := fun i H h hi => by
    show (st s).cps.size ≤ i
    simpa [signs, st] using hi
def intsR (lo : Int) (n : Nat) : List D := (List.range n).map fun (i : Nat) => D.int (lo + (i : Int))
theorem jok_range {lo : Int} {n : Nat} : JOk K C F1 (Itr lo n) (intsR lo n) where
  go := fun i H h hi => by
    show i < n
    simpa [intsR] using hi
  yld := fun i F H x H' h f fh hi y => by
    obtain ⟨rfl, rfl⟩ := y
    have hi : i < n := by simpa [intsR] using hi
    exact ⟨F, .int (lo + i), Grow.refl fh, by unfold intsR; rw [List.getElem?_map, List.getElem?_range hi]; rfl, rfl⟩
  stop := fun i H h hi => by
    show n ≤ i
    simpa [intsR] using hi
def pairs (k : Nat) : List D → List D
  | [] => []
  | d :: ds => .tup [.int (k : Int), d] :: pairs (k + 1) ds
theorem pairs_get : ∀ {ds : List D} {k i : Nat}, (pairs k ds)[i]? = (ds[i]?).map fun d => .tup [.int ((k + i : Nat) : Int), d]
  | [], k, i => by simp [pairs]
  | d :: ds, k, 0 => by simp [pairs]
  | d :: ds, k, i + 1 => by
    unfold pairs
    rw [List.getElem?_cons_succ, List.getElem?_cons_succ, pairs_get]
    congr 1
    funext d
    have : k + 1 + i = k + (i + 1) := by omega
    rw [this]
theorem pairs_len : ∀ {ds : List D} {k : Nat}, (pairs k ds).length = ds.length
  | [], _ => rfl
  | d :: ds, k => by unfold pairs; rw [List.length_cons, List.length_cons, pairs_len]
theorem jok_enum {a : Addr} {ds : List D} {vs : List V} (hC : Rd C a (.lst vs)) (r : Reps K F1 ds vs) : JOk K C F1 (Ite K a) (pairs 0 ds) where
  go := fun i H h hi => by
    rw [pairs_len] at hi
    obtain ⟨v, hv, _⟩ := r.get (List.getElem?_eq_getElem hi)
    exact ⟨vs, v, .inl (h.rd hC), hv⟩
  yld := fun i F H x H' h f fh hi y => by
    obtain ⟨T, u, rfl, hT, rfl, y⟩ := y
    obtain ⟨d, hd, hr⟩ := r.getV (y vs (.inl (h.rd hC)))
    refine ⟨upd F T (.tup [.int (i : Nat), u]), .tup [.int ((i : Nat) : Int), d], growT fh hT, by rw [pairs_get, hd]; simp, ?_⟩
    unfold Rep
    exact ⟨T, _, rfl, .inl (.inl upd_same), Reps.cons rfl (Reps.cons (Rep.mono (f.trans (Sub.upd (fh.none hT))) _ _ hr) Reps.nil)⟩
  stop := fun i H h hi => ⟨vs, .inl (h.rd hC), by rw [pairs_len] at hi; rw [← r.length]; exact hi⟩
def zips : List D → List D → List D
  | a :: as, b :: bs => .tup [a, b] :: zips as bs
  | _, _ => []
theorem zips_get : ∀ {as bs : List D} {i : Nat} {a b : D}, as[i]? = some a → bs[i]? = some b → (zips as bs)[i]? = some (.tup [a, b])
  | [], bs, i, a, b, h, _ => by simp at h
  | _ :: _, [], i, a, b, _, h => by simp at h
  | x :: as, y :: bs, 0, a, b, h1, h2 => by simp at h1 h2; subst h1; subst h2; rfl
  | x :: as, y :: bs, i + 1, a, b, h1, h2 => by
    unfold zips
    rw [List.getElem?_cons_succ]
    exact zips_get (by simpa using h1) (by simpa using h2)
theorem zips_len : ∀ {as bs : List D}, (zips as bs).length = min as.length bs.length
  | [], bs => by simp [zips]
  | _ :: _, [] => by simp [zips]
  | x :: as, y :: bs => by unfold zips; rw [List.length_cons, List.length_cons, List.length_cons, zips_len]; omega
theorem jok_zip {a b : Addr} {ds es : List D} {vs us : List V} (hC : Rd C a (.lst vs)) (r : Reps K F1 ds vs) (hE : Rd C b (.lst us)) (q : Reps K F1 es us) : JOk K C F1 (Itz K a b) (zips ds es) where
  go := fun i H h hi => by
    rw [zips_len] at hi
    obtain ⟨v, hv, _⟩ := r.get (List.getElem?_eq_getElem (show i < ds.length by omega))
    obtain ⟨u, hu, _⟩ := q.get (List.getElem?_eq_getElem (show i < es.length by omega))
    exact ⟨vs, us, v, u, .inl (h.rd hC), .inl (h.rd hE), hv, hu⟩
  yld := fun i F H x H' h f fh hi y => by
    obtain ⟨T, u, w, rfl, hT, rfl, y1, y2⟩ := y
    obtain ⟨d, hd, hr⟩ := r.getV (y1 vs (.inl (h.rd hC)))
    obtain ⟨e, he, hs⟩ := q.getV (y2 us (.inl (h.rd hE)))
    refine ⟨upd F T (.tup [u, w]), .tup [d, e], growT fh hT, zips_get hd he, ?_⟩
    unfold Rep
    have ff := f.trans (Sub.upd (o := .tup [u, w]) (fh.none hT))
    exact ⟨T, _, rfl, .inl (.inl upd_same), Reps.cons (Rep.mono ff _ _ hr) (Reps.cons (Rep.mono ff _ _ hs) Reps.nil)⟩
  stop := fun i H h hi => ⟨vs, us, .inl (h.rd hC), .inl (h.rd hE), by rw [zips_len] at hi; rw [← r.length, ← q.length]; omega⟩
end
section
variable {X : Cx} {c : Ct} {tg l e : Expr} {es : List Expr} {pos p : Pos}
/-- a list, a tuple or a text that is walked -/
def itemsD : D → Option (List D)
  | .lst ds => some ds
  | .tup ds => some ds
  | .str s => some (signs s)
  | _ => none
def src (A : M D) : M (List D) := A.bind fun d => M.lift (itemsD d)
def iSeq (K : Fr) (tl : TE) : TI := fun σ H R => tl σ H fun x H1 => (∃ a, x = .ref a ∧ (∃ xs, SqL K H1 a xs) ∧ R (Itl K a) H1) ∨ (∃ a, x = .ref a ∧ (∃ xs, SqT K H1 a xs) ∧ R (Itt K a) H1) ∨ (∃ y, x = .str y ∧ R (Its y) H1)
theorem pi_seq {tl : TE} (hl : PE X l tl) : PI X tg l (iSeq X.K tl) := by
  refine ⟨fun pins s σ H R I h => ?_⟩
  refine thn (hl.run pins s σ H _ I h) fun v s1 ⟨x, H1, I1, r1, q1⟩ => ?_
  rcases q1 with ⟨a, e, ⟨xs, hq⟩, q⟩ | ⟨a, e, ⟨xs, hq⟩, q⟩ | ⟨y, e, q⟩
  · subst e
    cases r1
    obtain ⟨its, rv, p, hz⟩ := I1.list hq
    refine wpAny_pyIter_list p.isList ?_
    refine ⟨s1.heap.objs.size, [s1.heap.objs.size], _, _, H1, rfl, I1.kept (t' := s1.toks) fun b o e => Heap.get?_push_of_some _ e, turn_list a _, ⟨_, Heap.get?_push_size _ rfl, rfl, rfl⟩, fun b hb => ?_, q⟩
    have e : b = s1.heap.objs.size := by simpa using hb
    subst e
    exact I1.fpOk (Nat.le_refl _) (I1.hok.fresh (Nat.le_refl _))
  · subst e
    cases r1
    obtain ⟨its, rv, p, hz⟩ := I1.tuple hq
    refine wpAny_pyIter_tuple (show s1.heap.IsTuple a its.toArray from p) ?_
    refine ⟨s1.heap.objs.size, [s1.heap.objs.size], _, _, H1, rfl, I1.kept (t' := s1.toks) fun b o e => Heap.get?_push_of_some _ e, turn_tuple a _, ⟨_, Heap.get?_push_size _ rfl, rfl, rfl⟩, fun b hb => ?_, q⟩
    have e : b = s1.heap.objs.size := by simpa using hb
    subst e
    exact I1.fpOk (Nat.le_refl _) (I1.hok.fresh (Nat.le_refl _))
  · subst e
    obtain ⟨t, rfl⟩ := r1
    cases ha : y.cps.all (· < 128)
    · exact wpAny_pyIter_wide ha (pi_one (tk := s1.toks) I1 _ (turn_str _ y t "str_iterator" (.inr rfl)) ⟨_, Heap.get?_push_size _ rfl, rfl, rfl⟩ q)
    · exact wpAny_pyIter_ascii ha (pi_one (tk := s1.toks) I1 _ (turn_str _ y t "str_ascii_iterator" (.inl rfl)) ⟨_, Heap.get?_push_size _ rfl, rfl, rfl⟩ q)
theorem Aft.liftA {α β : Type} {R : Hp → Hp → L2.St → Env → α → β → Prop} {F H : Hp} {σ : L2.St} {ρ : Env} {o : Option α} {Q : β → Hp → Prop} (h : Aft c R F H σ (M.lift o ρ) Q) (S : SRc c F H σ ρ) :
    ∃ a, o = some a ∧ ∀ b F' H', Grow F H F' H' → R F' H' σ ρ a b → Q b H' := by
  cases o with
  | none => exact h.elim
  | some s => exact ⟨s, rfl, fun b F' H' g n => h b F' H' (S.grow g) g.f g.h n⟩
/-- .. in a comprehension: looked at -/
theorem j_src {A : M D} (hk : c.K = X.K) (h : PE X l (tP c A)) : PI X tg l (tJ c (src A)) := by
  refine (pi_seq h).imp fun σ H Q ⟨F, ρ, S, k⟩ => ⟨F, ρ, S, k.step fun d ρ1 x F1 H1 S1 r1 f1 h1 a1 => ?_⟩
  obtain ⟨ds, e, q⟩ := a1.liftA S1
  rw [← hk]
  cases d with
  | lst ds' =>
    cases e
    obtain ⟨a, vs, rfl, h2, k2⟩ := r1
    exact .inl ⟨a, rfl, ⟨vs, .inl h2⟩, q _ F1 H1 (Grow.refl S1.fh) (jok_list h2 k2)⟩
  | tup ds' =>
    cases e
    obtain ⟨a, vs, rfl, h2, k2⟩ := pkTup r1
    exact .inr (.inl ⟨a, rfl, ⟨vs, S1.fh.sqT h2⟩, q _ F1 H1 (Grow.refl S1.fh) (jok_tup (S1.fh.sqT h2) k2)⟩)
  | str s =>
    cases e
    exact .inr (.inr ⟨_, r1, q _ F1 H1 (Grow.refl S1.fh) jok_str⟩)
  | _ => cases e
/-- .. in a for: frozen -/
theorem k_src {A : M D} (hk : c.K = X.K) (h : PE X l (tF c A)) : PI X tg l (tK c (src A)) := by
  refine (pi_seq h).imp fun σ H Q ⟨F, ρ, S, k⟩ => ⟨F, ρ, S, k.step fun d ρ1 x F1 H1 S1 r1 f1 h1 a1 => ?_⟩
  obtain ⟨ds, e, q⟩ := a1.liftA S1
  rw [← hk]
  have r1 : Rep c.K F1 d x := r1
  cases d with
  | lst ds' =>
    cases e
    unfold Rep at r1
    obtain ⟨a, vs, rfl, h2, k2⟩ := r1
    exact .inl ⟨a, rfl, ⟨vs, .inl (S1.fh.rd h2)⟩, q _ F1 H1 (Grow.refl S1.fh) (jok_list h2 k2)⟩
  | tup ds' =>
    cases e
    unfold Rep at r1
    obtain ⟨a, vs, rfl, h2, k2⟩ := r1
    exact .inr (.inl ⟨a, rfl, ⟨vs, S1.fh.sqT h2⟩, q _ F1 H1 (Grow.refl S1.fh) (jok_tup h2 k2)⟩)
  | str s =>
    cases e
    exact .inr (.inr ⟨_, r1, q _ F1 H1 (Grow.refl S1.fh) jok_str⟩)
  | _ => cases e
/-- range -/
def rng1 (R : M (List D)) : M (List D) := R.bind fun ds => M.lift (match ds with | [.int j] => if -(2 ^ 62) ≤ j ∧ j < 2 ^ 62 then some (intsR 0 j.toNat) else none | _ => none)
def rng2 (R : M (List D)) : M (List D) := R.bind fun ds => M.lift (match ds with | [.int i, .int j] => if -(2 ^ 62) ≤ i ∧ i < 2 ^ 62 ∧ -(2 ^ 62) ≤ j ∧ j < 2 ^ 62 then some (intsR i (j - i).toNat) else none | _ => none)
theorem rng1_tr {R : M (List D)} {Rel : Hp → Hp → L2.St → Env → List D → It → Prop} (hR : ∀ F H σ ρ lo n, Rel F H σ ρ (intsR lo n) (Itr lo n)) {σ : L2.St} {H : Hp} {Q : It → Hp → Prop} (h : tG c Rel (rng1 R) σ H Q) : iRng1 (tPs c R) σ H Q := by
  obtain ⟨F, ρ, S, k⟩ := h
  refine ⟨F, ρ, S, k.step fun ds ρ1 xs F1 H1 S1 r1 f1 h1 a1 => ?_⟩
  obtain ⟨as, e, q⟩ := a1.liftA S1
  split at e
  · split at e
    · cases e
      rename_i hj
      obtain ⟨x, rfl, r2⟩ := PkRs.one r1
      have r2 : x = .int _ := r2
      subst r2
      exact ⟨_, rfl, hj.1, hj.2, q _ F1 H1 (Grow.refl S1.fh) (hR _ _ _ _ _ _)⟩
    · cases e
  · cases e
theorem rng2_tr {R : M (List D)} {Rel : Hp → Hp → L2.St → Env → List D → It → Prop} (hR : ∀ F H σ ρ lo n, Rel F H σ ρ (intsR lo n) (Itr lo n)) {σ : L2.St} {H : Hp} {Q : It → Hp → Prop} (h : tG c Rel (rng2 R) σ H Q) : iRng2 (tPs c R) σ H Q := by
  obtain ⟨F, ρ, S, k⟩ := h
  refine ⟨F, ρ, S, k.step fun ds ρ1 xs F1 H1 S1 r1 f1 h1 a1 => ?_⟩
  obtain ⟨as, e, q⟩ := a1.liftA S1
  split at e
  · split at e
    · cases e
      rename_i hj
      obtain ⟨x, y, rfl, r2, r3⟩ := PkRs.two r1
      have r2 : x = .int _ := r2
      have r3 : y = .int _ := r3
      subst r2
      subst r3
      exact ⟨_, _, rfl, hj, q _ F1 H1 (Grow.refl S1.fh) (hR _ _ _ _ _ _)⟩
    · cases e
  · cases e
theorem j_rng1 {R : M (List D)} {a : Expr} (hg : Gl X "range") (hm : X.mg "range" = none) (ha : PA X [a] (tPs c R)) (hs : starEach [a] X.env = [(false, eval a X.env)] := by rfl) : PI X tg (.Call (.Name "range" p) [a] [] pos) (tJ c (rng1 R)) :=
  (pi_range1 hg hm ha hs).imp fun _ _ _ h => rng1_tr (fun _ _ _ _ _ _ => jok_range) h
theorem k_rng1 {R : M (List D)} {a : Expr} (hg : Gl X "range") (hm : X.mg "range" = none) (ha : PA X [a] (tPs c R)) (hs : starEach [a] X.env = [(false, eval a X.env)] := by rfl) : PI X tg (.Call (.Name "range" p) [a] [] pos) (tK c (rng1 R)) :=
  (pi_range1 hg hm ha hs).imp fun _ _ _ h => rng1_tr (fun _ _ _ _ _ _ => jok_range) h
theorem j_rng2 {R : M (List D)} {a b : Expr} (hg : Gl X "range") (hm : X.mg "range" = none) (ha : PA X [a, b] (tPs c R)) (hs : starEach [a, b] X.env = [(false, eval a X.env), (false, eval b X.env)] := by rfl) (hs2 : starEach [b] X.env = [(false, eval b X.env)] := by rfl) :
    PI X tg (.Call (.Name "range" p) [a, b] [] pos) (tJ c (rng2 R)) := (pi_range2 hg hm ha hs hs2).imp fun _ _ _ h => rng2_tr (fun _ _ _ _ _ _ => jok_range) h
theorem k_rng2 {R : M (List D)} {a b : Expr} (hg : Gl X "range") (hm : X.mg "range" = none) (ha : PA X [a, b] (tPs c R)) (hs : starEach [a, b] X.env = [(false, eval a X.env), (false, eval b X.env)] := by rfl) (hs2 : starEach [b] X.env = [(false, eval b X.env)] := by rfl) :
    PI X tg (.Call (.Name "range" p) [a, b] [] pos) (tK c (rng2 R)) := (pi_range2 hg hm ha hs hs2).imp fun _ _ _ h => rng2_tr (fun _ _ _ _ _ _ => jok_range) h
/-- enumerate, zip of lists -/
def enumL (R : M (List D)) : M (List D) := R.bind fun ds => M.lift (match ds with | [.lst xs] => some (pairs 0 xs) | _ => none)
def zipL (R : M (List D)) : M (List D) := R.bind fun ds => M.lift (match ds with | [.lst xs, .lst ys] => some (zips xs ys) | _ => none)
theorem j_enum {R : M (List D)} {tpos : Pos} {elts : List Expr} {kk : Nat} (hk : c.K = X.K) (hg : Gl X "enumerate") (hm : X.mg "enumerate" = none) (ha : PA X [e] (tPs c R)) (hs : starEach [e] X.env = [(false, eval e X.env)] := by rfl) :
    PI X (.Tuple elts kk tpos) (.Call (.Name "enumerate" p) [e] [] pos) (tJ c (enumL R)) := by
  refine (pi_enum hg hm ha hs).imp fun σ H Q ⟨F, ρ, S, k⟩ => ⟨F, ρ, S, k.step fun ds ρ1 xs F1 H1 S1 r1 f1 h1 a1 => ?_⟩
  obtain ⟨as, e, q⟩ := a1.liftA S1
  rw [← hk]
  split at e
  · cases e
    obtain ⟨x, rfl, a, vs, rfl, h2, k2⟩ := PkRs.one r1
    exact ⟨a, vs, rfl, .inl h2, q _ F1 H1 (Grow.refl S1.fh) (jok_enum h2 k2)⟩
  · cases e
theorem j_zip {R : M (List D)} {e2 : Expr} {tpos : Pos} {elts : List Expr} {kk : Nat} (hk : c.K = X.K) (hg : Gl X "zip") (hm : X.mg "zip" = none) (ha : PA X [e, e2] (tPs c R)) (hs : starEach [e, e2] X.env = (false, eval e X.env) :: starEach [e2] X.env := by rfl) (hpl : (backTo pos (starEach [e2] X.env)).any (·.1) = false := by rfl) :
    PI X (.Tuple elts kk tpos) (.Call (.Name "zip" p) [e, e2] [] pos) (tJ c (zipL R)) := by
  refine (pi_zip hg hm ha hs hpl).imp fun σ H Q ⟨F, ρ, S, k⟩ => ⟨F, ρ, S, k.step fun ds ρ1 xs F1 H1 S1 r1 f1 h1 a1 => ?_⟩
  obtain ⟨as, e, q⟩ := a1.liftA S1
  rw [← hk]
  split at e
  · cases e
    obtain ⟨x, y, rfl, ⟨a, vs, rfl, h2, k2⟩, ⟨b, us, rfl, h3, k3⟩⟩ := PkRs.two r1
    exact ⟨a, b, vs, us, rfl, .inl h2, .inl h3, q _ F1 H1 (Grow.refl S1.fh) (jok_zip h2 k2 h3 k3)⟩
  · cases e
theorem PkRs.ofF {K : Fr} {F H : Hp} (fh : Sub F H) : ∀ {ds : List D} {vs : List V}, Reps K F ds vs → PkRs K F H ds vs
  | [], vs, h => h.inv0
  | d :: ds, vs, h => by
    obtain ⟨v, r, rfl, k1, k2⟩ := h.inv
    exact ⟨v, r, rfl, Rep.pk fh k1, PkRs.ofF fh k2⟩
theorem k_enum {R : M (List D)} {tpos : Pos} {elts : List Expr} {kk : Nat} (hk : c.K = X.K) (hg : Gl X "enumerate") (hm : X.mg "enumerate" = none) (ha : PA X [e] (tFs c R)) (hs : starEach [e] X.env = [(false, eval e X.env)] := by rfl) :
    PI X (.Tuple elts kk tpos) (.Call (.Name "enumerate" p) [e] [] pos) (tK c (enumL R)) := by
  refine (pi_enum hg hm ha hs).imp fun σ H Q ⟨F, ρ, S, k⟩ => ⟨F, ρ, S, k.step fun ds ρ1 xs F1 H1 S1 r1 f1 h1 a1 => ?_⟩
  obtain ⟨as, e, q⟩ := a1.liftA S1
  rw [← hk]
  split at e
  · cases e
    obtain ⟨x, r, rfl, k2, k3⟩ := Reps.inv r1
    have k3 := k3.inv0
    subst k3
    unfold Rep at k2
    obtain ⟨a, vs, rfl, h2, k2⟩ := k2
    exact ⟨a, vs, rfl, .inl (S1.fh.rd h2), q _ F1 H1 (Grow.refl S1.fh) (jok_enum h2 k2)⟩
  · cases e
theorem k_zip {R : M (List D)} {e2 : Expr} {tpos : Pos} {elts : List Expr} {kk : Nat} (hk : c.K = X.K) (hg : Gl X "zip") (hm : X.mg "zip" = none) (ha : PA X [e, e2] (tFs c R)) (hs : starEach [e, e2] X.env = (false, eval e X.env) :: starEach [e2] X.env := by rfl) (hpl : (backTo pos (starEach [e2] X.env)).any (·.1) = false := by rfl) :
    PI X (.Tuple elts kk tpos) (.Call (.Name "zip" p) [e, e2] [] pos) (tK c (zipL R)) := by
  refine (pi_zip hg hm ha hs hpl).imp fun σ H Q ⟨F, ρ, S, k⟩ => ⟨F, ρ, S, k.step fun ds ρ1 xs F1 H1 S1 r1 f1 h1 a1 => ?_⟩
  obtain ⟨as, e, q⟩ := a1.liftA S1
  rw [← hk]
  split at e
  · cases e
    obtain ⟨x, r, rfl, k2, k3⟩ := Reps.inv r1
    obtain ⟨y, r', rfl, k4, k5⟩ := k3.inv
    have k5 := k5.inv0
    subst k5
    unfold Rep at k2 k4
    obtain ⟨a, vs, rfl, h2, k2⟩ := k2
    obtain ⟨b, us, rfl, h4, k4⟩ := k4
    exact ⟨a, b, vs, us, rfl, .inl (S1.fh.rd h2), .inl (S1.fh.rd h4), q _ F1 H1 (Grow.refl S1.fh) (jok_zip h2 k2 h4 k4)⟩
  · cases e
end
end PM
namespace PM
open PySem L2 PyProof.Rows

/-! ### list comprehensions -/
def wipeE (ρ : Env) : List Nat → Env
  | [] => ρ
  | v :: vs => (wipeE ρ vs).set v none
def restE (ρ ρ2 : Env) : List Nat → Env
  | [] => ρ2
  | v :: vs => (restE ρ ρ2 vs).set v (ρ[v]?).join
section
variable {K : Fr} {B F0 F H F2 H2 : Hp} {σ σ2 : L2.St} {ρ ρ2 : Env} {vs : List Nat}
theorem SR.wipe (S : SR K B F0 F H σ ρ) : ∀ vs : List Nat, SR K B F0 F H (L2.wipe σ vs) (wipeE ρ vs)
  | [] => S
  | v :: vs => (SR.wipe S vs).forget v
theorem wipe_get {j : Nat} : ∀ {vs : List Nat}, j ∉ vs → (L2.wipe σ vs)[j]? = σ[j]?
  | [], _ => rfl
  | v :: vs, h => by
    unfold L2.wipe
    rw [List.getElem?_set_ne (fun z => h (by rw [z]; exact List.mem_cons_self)), wipe_get fun z => h (List.mem_cons_of_mem _ z)]
theorem wipe_in {j : Nat} : ∀ {vs : List Nat}, j ∈ vs → j < σ.length → (L2.wipe σ vs)[j]? = some none
  | [], h, _ => by cases h
  | v :: vs, h, hl => by
    unfold L2.wipe
    by_cases e : v = j
    · subst e
      rw [List.getElem?_set_self (by rw [wipe_length]; exact hl)]
    · rw [List.getElem?_set_ne e]
      exact wipe_in ((List.mem_cons.mp h).resolve_left fun z => e z.symm) hl
theorem wipe_ext (hl : σ2.length = σ.length) (h : ∀ j, j ∉ vs → σ2[j]? = σ[j]?) : L2.wipe σ2 vs = L2.wipe σ vs := by
  apply List.ext_getElem?
  intro j
  by_cases hj : j ∈ vs
  · by_cases hz : j < σ.length
    · rw [wipe_in hj hz, wipe_in hj (by rw [hl]; exact hz)]
    · rw [List.getElem?_eq_none (by rw [wipe_length]; omega), List.getElem?_eq_none (by rw [wipe_length]; omega)]
  · rw [wipe_get hj, wipe_get hj, h j hj]
theorem wipeE_length (ρ : Env) : ∀ vs : List Nat, (wipeE ρ vs).length = ρ.length
  | [] => rfl
  | v :: vs => by unfold wipeE; rw [List.length_set, wipeE_length ρ vs]
theorem rest_length (ρ ρ2 : Env) : ∀ vs : List Nat, (restE ρ ρ2 vs).length = ρ2.length
  | [] => rfl
  | v :: vs => by unfold restE; rw [List.length_set, rest_length ρ ρ2 vs]
theorem rest_get {j : Nat} : ∀ {vs : List Nat}, j ∉ vs → (restE ρ ρ2 vs)[j]? = ρ2[j]?
  | [], _ => rfl
  | v :: vs, h => by
    unfold restE
    rw [List.getElem?_set_ne (fun z => h (by rw [z]; exact List.mem_cons_self)), rest_get fun z => h (List.mem_cons_of_mem _ z)]
theorem rest_in {j : Nat} : ∀ {vs : List Nat}, j ∈ vs → j < ρ2.length → (restE ρ ρ2 vs)[j]? = some (ρ[j]?).join
  | [], h, _ => by cases h
  | v :: vs, h, hl => by
    unfold restE
    by_cases e : v = j
    · subst e
      rw [List.getElem?_set_self (by rw [rest_length]; exact hl)]
    · rw [List.getElem?_set_ne e]
      exact rest_in ((List.mem_cons.mp h).resolve_left fun z => e z.symm) hl
def clean (vs : List Nat) (ρ : Env) : Bool := vs.all fun j => !owned ρ j
theorem SR.rest (S : SR K B F0 F H σ ρ) (S2 : SR K B F0 F2 H2 σ2 ρ2) (f : Sub F F2) (hl : σ2.length = σ.length) (hs : ∀ j, j ∉ vs → σ2[j]? = σ[j]?) (hc : clean vs ρ = true) : SR K B F0 F2 H2 σ (restE ρ ρ2 vs) where
  bh := S2.bh
  fh := S2.fh
  f0 := S2.f0
  new := S2.new
  len := by rw [rest_length, ← S2.len, hl]
  sl := fun j s e => by
    by_cases hj : j ∈ vs
    · have hlt : j < ρ2.length := by
        have := (List.getElem?_eq_some_iff.mp e).1
        rwa [rest_length] at this
      rw [rest_in hj hlt] at e
      cases q : ρ[j]? with
      | none => rw [q] at e; cases e
      | some s0 =>
        rw [q] at e
        cases s0 with
        | none => cases e
        | some s0 =>
          have e : s0 = s := by simpa using e
          subst e
          obtain ⟨v, h1, h2⟩ := S.sl j _ q
          have := List.all_eq_true.mp hc j hj
          obtain ⟨o, d⟩ := s0
          cases o with
          | false => exact ⟨v, h1, Rep.mono f d v h2⟩
          | true => unfold owned at this; rw [q] at this; cases this
    · rw [rest_get hj] at e
      obtain ⟨v, h1, h2⟩ := S2.sl j s e
      exact ⟨v, by rw [← hs j hj]; exact h1, h2⟩
  sep := fun a b p da db e1 e2 e3 e4 => by
    have out : ∀ {j : Nat} {d : D}, (restE ρ ρ2 vs)[j]? = some (some (true, d)) → j ∉ vs := fun {j d} e hj => by
      have hlt : j < ρ2.length := by
        have := (List.getElem?_eq_some_iff.mp e).1
        rwa [rest_length] at this
      rw [rest_in hj hlt] at e
      cases q : ρ[j]? with
      | none => rw [q] at e; cases e
      | some s0 =>
        rw [q] at e
        have e : s0 = some (true, d) := by simpa using e
        subst e
        have := List.all_eq_true.mp hc j hj
        unfold owned at this
        rw [q] at this
        cases this
    have h1 := out e1
    have h2 := out e2
    rw [rest_get h1] at e1
    rw [rest_get h2] at e2
    rw [← hs a h1] at e3
    rw [← hs b h2] at e4
    exact S2.sep a b p da db e1 e2 e3 e4
theorem clean_rest (hc : clean vs ρ = true) (hl : ρ2.length = ρ.length) : clean vs (restE ρ ρ2 vs) = true := by
  refine List.all_eq_true.mpr fun j hj => ?_
  have := List.all_eq_true.mp hc j hj
  unfold owned at this ⊢
  by_cases hz : j < ρ2.length
  · rw [rest_in hj hz]
    cases q : ρ[j]? with
    | none => rfl
    | some s0 => rw [q] at this; exact this
  · rw [List.getElem?_eq_none (by rw [rest_length]; omega)]
    rfl
/-- a cell of our own is kept from becoming data -/
theorem SR.guard (S : SR K B F0 F H σ ρ) {D : Addr} {o : HO} (h : H D = none) : SR K (L2.upd B D o) F0 F (L2.upd H D o) σ ρ where
  bh := fun a u e => by
    by_cases z : a = D
    · subst z; rw [upd_same] at e ⊢; exact e
    · rw [upd_ne z] at e ⊢; exact S.bh a u e
  fh := S.fh.trans (Sub.upd h)
  f0 := S.f0
  new := fun a u e => by
    rcases S.new a u e with z | z
    · exact .inl z
    · have : a ≠ D := ne_of_none (S.fh a u e) h
      exact .inr (by rw [upd_ne this]; exact z)
  len := S.len
  sl := fun j s e => by
    obtain ⟨v, h1, h2⟩ := S.sl j s e
    refine ⟨v, h1, ?_⟩
    obtain ⟨ow, d⟩ := s
    cases ow with
    | false => exact h2
    | true =>
      obtain ⟨p, rfl, fp, bp, kp⟩ := h2
      obtain ⟨u, hu⟩ := kp.there
      have np : p ≠ D := ne_of_none hu h
      exact ⟨p, rfl, fp, by rw [upd_ne np]; exact bp, kp.mono (Sub.refl _) fun u hu => by rw [upd_ne np]; exact hu⟩
  sep := S.sep
theorem SR.unguard {D : Addr} {o : HO} (S : SR K (L2.upd B D o) F0 F H σ ρ) (hB : B D = none) : SR K B F0 F H σ ρ where
  bh := (Sub.upd hB).trans S.bh
  fh := S.fh
  f0 := S.f0
  new := fun a u e => by
    rcases S.new a u e with z | z
    · exact .inl z
    · refine .inr ?_
      by_cases q : a = D
      · subst q; exact hB
      · rw [upd_ne q] at z; exact z
  len := S.len
  sl := fun j s e => by
    obtain ⟨v, h1, h2⟩ := S.sl j s e
    refine ⟨v, h1, ?_⟩
    obtain ⟨ow, d⟩ := s
    cases ow with
    | false => exact h2
    | true =>
      obtain ⟨p, rfl, fp, bp, kp⟩ := h2
      exact ⟨p, rfl, fp, (Sub.upd hB).none bp, kp⟩
  sep := S.sep
theorem SR.regard {D : Addr} {o o' : HO} (S : SR K (L2.upd B D o) F0 F H σ ρ) (hF : F D = none) : SR K (L2.upd B D o') F0 F (L2.upd H D o') σ ρ where
  bh := fun a u e => by
    by_cases z : a = D
    · subst z; rw [upd_same] at e ⊢; exact e
    · rw [upd_ne z] at e ⊢; exact S.bh a u (by rw [upd_ne z]; exact e)
  fh := fun a u e => by
    have : a ≠ D := ne_of_none e hF
    rw [upd_ne this]; exact S.fh a u e
  f0 := S.f0
  new := fun a u e => by
    have : a ≠ D := ne_of_none e hF
    rcases S.new a u e with z | z
    · exact .inl z
    · exact .inr (by rw [upd_ne this] at z ⊢; exact z)
  len := S.len
  sl := fun j s e => by
    obtain ⟨v, h1, h2⟩ := S.sl j s e
    refine ⟨v, h1, ?_⟩
    obtain ⟨ow, d⟩ := s
    cases ow with
    | false => exact h2
    | true =>
      obtain ⟨p, rfl, fp, bp, kp⟩ := h2
      have np : p ≠ D := fun z => by subst z; rw [upd_same] at bp; cases bp
      exact ⟨p, rfl, fp, by rw [upd_ne np] at bp ⊢; exact bp, kp.mono (Sub.refl _) fun u hu => by rw [upd_ne np]; exact hu⟩
  sep := S.sep
theorem SR.unheld {D : Addr} {o : HO} (S : SR K (L2.upd B D o) F0 F H σ ρ) (h0 : F0 D = none) : F D = none := by
  cases q : F D with
  | none => rfl
  | some u =>
    rcases S.new D u q with z | z
    · rw [h0] at z; cases z
    · rw [upd_same] at z; cases z
end
def compF (T : Tg) (G : M Bool) (E : M D) (vs : List Nat) : List D → Env → Out (List D)
  | [], ρ => .ok [] ρ
  | d :: ds, ρ => match T d (wipeE ρ vs) with
    | none => .bad
    | some ρ1 => match G ρ1 with
      | .ok false ρ2 => compF T G E vs ds (restE ρ ρ2 vs)
      | .ok true ρ2 => (match E ρ2 with
        | .ok x ρ3 => (match compF T G E vs ds (restE ρ ρ3 vs) with
          | .ok xs ρ4 => .ok (x :: xs) ρ4
          | .exc e ρ4 => .exc e ρ4
          | .bad => .bad)
        | _ => .bad)
      | _ => .bad
def lcE (A : M (List D)) (T : Tg) (G : M Bool) (E : M D) (vs : List Nat) : M Slot := A.bind fun ds ρ =>
  if clean vs ρ && decide (ds.length < sizeLine) then (match compF T G E vs ds ρ with
    | .ok xs ρ' => .ok (true, .lst xs) ρ'
    | _ => .bad) else .bad
abbrev cB (c : Ct) (B : Hp) : Ct := { c with B := B, W := fun _ _ _ _ => False }
def xT (c : Ct) (G : M Bool) : TT := fun σ H Q => ∃ B, tT (cB c B) G σ H Q
def xF (c : Ct) (E : M D) : TE := fun σ H Q => ∃ B, tF (cB c B) E σ H Q
theorem lc_tr {c : Ct} {A : M (List D)} {T : Tg} {G : M Bool} {E : M D} {vs js : List Nat} {g : TG} (hg : TgOk c.K g T js) (hjs : ∀ j ∈ js, j ∈ vs) {σ : L2.St} {H : Hp} {Q : VK} (h : tE c (lcE A T G E vs) σ H Q) : tLc (tJ c A) g (xT c G) (xF c E) vs σ H Q := by
  obtain ⟨F, ρ, S, k⟩ := h
  refine ⟨F, ρ, S, k.step fun ds ρ1 J F1 H1 S1 r1 f1 h1 a1 D hD => ?_⟩
  have r1 : JOk c.K H1 F1 J ds := r1
  by_cases hcl : (clean vs ρ1 && decide (ds.length < sizeLine)) = true
  · rw [if_pos hcl] at a1
    have hcl := Bool.and_eq_true_iff.mp hcl
    have hsz : ds.length < sizeLine := of_decide_eq_true hcl.2
    cases hall : compF T G E vs ds ρ1 with
    | exc e r => rw [hall] at a1; exact a1.elim
    | bad => rw [hall] at a1; exact a1.elim
    | ok xs ρe =>
      rw [hall] at a1
      dsimp only at a1
      have hF0 : c.F0 D = none := (S1.f0.trans S1.fh).none hD
      have hB0 : c.B D = none := S1.bh.none hD
      refine ⟨fun i m H' => m = ds.length - i ∧ i ≤ ds.length ∧ ∃ F' ρ' acc us es, H' D = some (.lst us) ∧ Reps c.K F' acc us ∧ SR c.K (upd c.B D (.lst us)) c.F0 F' H' σ ρ' ∧ Sub F1 F' ∧ Sub H1 H' ∧ clean vs ρ' = true ∧ ρ'.length = ρ1.length ∧ compF T G E vs (ds.drop i) ρ' = .ok es ρe ∧ xs = acc ++ es ∧ acc.length ≤ i,
        ⟨ds.length, rfl, Nat.zero_le _, F1, ρ1, [], [], xs, upd_same, Reps.nil, S1.guard hD, Sub.refl _, Sub.upd hD, hcl.1, rfl, hall, rfl, Nat.le_refl _⟩, ?_⟩
      rintro i m H' ⟨rfl, hi, F', ρ', acc, us, es, hDu, ru, S', f', g', cl', ln', hc, rfl, hal⟩
      have hFD : F' D = none := S'.unheld hF0
      rcases Nat.lt_or_ge i ds.length with hlt | hge
      · refine .inr ⟨r1.go i H' g' hlt, ?_⟩
        refine ⟨fun H2 => ∃ F2 ρ2 acc2 us2 es2, H2 D = some (.lst us2) ∧ Reps c.K F2 acc2 us2 ∧ SR c.K (upd c.B D (.lst us2)) c.F0 F2 H2 σ ρ2 ∧ Sub F1 F2 ∧ Sub H1 H2 ∧ clean vs ρ2 = true ∧ ρ2.length = ρ1.length ∧ compF T G E vs (ds.drop (i + 1)) ρ2 = .ok es2 ρe ∧ acc ++ es = acc2 ++ es2 ∧ acc2.length ≤ i + 1,
          fun H2 hx => ⟨ds.length - (i + 1), by omega, rfl, by omega, hx⟩, fun x H2 y => ?_⟩
        obtain ⟨F2, d, g2, hd, rd⟩ := r1.yld i F' H' x H2 g' f' S'.fh hlt y
        have S2 := S'.grow g2
        have edrop : ds.drop i = d :: ds.drop (i + 1) := by
          rw [List.drop_eq_getElem_cons hlt]
          have : ds[i] = d := by
            rw [List.getElem?_eq_getElem hlt] at hd
            exact Option.some.inj hd
          rw [this]
        rw [edrop] at hc
        unfold compF at hc
        cases hT : T d (wipeE ρ' vs) with
        | none => rw [hT] at hc; cases hc
        | some ρ2 =>
          rw [hT] at hc
          dsimp only at hc
          refine hg.run _ _ _ _ _ _ d x ρ2 _ (S2.wipe vs) rd hT fun σ2 T2 l2 k2 => ?_
          rw [wipe_length] at l2
          have hs : ∀ j, j ∉ vs → σ2[j]? = σ[j]? := fun j hj => by rw [(k2 j fun z => hj (hjs j z)).1, wipe_get hj]
          have hDu2 : H2 D = some (.lst us) := g2.h D _ hDu
          refine ⟨wipe_ext l2 hs, upd c.B D (.lst us), F2, ρ2, T2, ?_⟩
          cases hG : G ρ2 with
          | exc e r => rw [hG] at hc; cases hc
          | bad => rw [hG] at hc; cases hc
          | ok b ρ3 =>
            rw [hG] at hc
            intro b' F3 H3 S3 f3 h3 eb
            have eb : b' = b := eb
            subst eb
            have l3 : ρ3.length = ρ'.length := by rw [← S3.len, l2, S'.len]
            cases b' with
            | false =>
              dsimp only at hc
              simp only [Bool.false_eq_true, if_false]
              exact ⟨F3, restE ρ' ρ3 vs, acc, us, es, h3 D _ hDu2, Reps.mono (g2.f.trans f3) _ _ ru, S'.rest S3 (g2.f.trans f3) l2 hs cl', (f'.trans g2.f).trans f3, (g'.trans g2.h).trans h3, clean_rest cl' l3, by rw [rest_length, l3, ln'], hc, rfl, by omega⟩
            | true =>
              dsimp only at hc
              simp only [if_true]
              refine ⟨upd c.B D (.lst us), F3, ρ3, S3, ?_⟩
              cases hE : E ρ3 with
              | exc e r => rw [hE] at hc; cases hc
              | bad => rw [hE] at hc; cases hc
              | ok z ρ4 =>
                rw [hE] at hc
                dsimp only at hc
                intro y F4 H4 S4 f4 h4 ry
                have ry : Rep c.K F4 z y := ry
                have hDu4 : H4 D = some (.lst us) := h4 D _ (h3 D _ hDu2)
                have l4 : ρ4.length = ρ'.length := by rw [← S4.len, l2, S'.len]
                have hFD4 : F4 D = none := S4.unheld hF0
                cases hR : compF T G E vs (ds.drop (i + 1)) (restE ρ' ρ4 vs) with
                | exc e r => rw [hR] at hc; cases hc
                | bad => rw [hR] at hc; cases hc
                | ok es2 r =>
                  rw [hR] at hc
                  dsimp only at hc
                  cases hc
                  refine ⟨us, hDu4, by rw [← ru.length]; omega, F4, restE ρ' ρ4 vs, acc ++ [z], us ++ [y], es2, upd_same, (Reps.mono ((g2.f.trans f3).trans f4) _ _ ru).append (Reps.cons ry Reps.nil), (S'.rest S4 ((g2.f.trans f3).trans f4) l2 hs cl').regard hFD4, ((f'.trans g2.f).trans f3).trans f4, fun a o e => ?_, clean_rest cl' l4, by rw [rest_length, l4, ln'], hR, by simp, by rw [List.length_append, List.length_singleton]; omega⟩
                  have na : a ≠ D := ne_of_none e hD
                  rw [upd_ne na]
                  exact h4 a o (h3 a o (g2.h a o (g' a o e)))
      · refine .inl ⟨r1.stop i H' g' hge, ?_⟩
        have e0 : ds.drop i = [] := List.drop_eq_nil_of_le hge
        rw [e0] at hc
        cases hc
        rw [List.append_nil] at a1
        refine a1 (.ref D) F' H' (S'.unguard hB0) f' g' ⟨⟨D, rfl, hFD, hB0, us, hDu, ru⟩, fun _ j d' e1 e2 => ?_⟩
        obtain ⟨v, h1, p, rfl, _, bp, _⟩ := S'.sl j _ e1
        rw [e2] at h1; cases h1
        rw [upd_same] at bp; cases bp
  · rw [if_neg hcl] at a1
    exact a1.elim
end PM
namespace PM
open PySem L2 PyProof.Rows

/-! ### comprehensions as expressions -/
theorem _root_.L2.PTs.imp {X : Cx} {es : List Expr} {t t' : TT} (h : PTs X es t) (k : ∀ σ H Q, t' σ H Q → t σ H Q) : PTs X es t' := ⟨fun pins s σ H Q I hw => h.run pins s σ H Q I (k σ H Q hw)⟩
def yes : M Bool := fun ρ => .ok true ρ
section
variable {X : Cx} {c : Ct} {e : Expr}
theorem x_nil : PTs X [] (xT c yes) := pts_nil.imp fun σ H Q ⟨B, F, ρ, S, k⟩ => k true F H S (Sub.refl _) (Sub.refl _) rfl
theorem x_one {G : M Bool} (h : ∀ B, PT X e (tT (cB c B) G)) : PTs X [e] (xT c G) := ⟨fun pins s σ H Q I ⟨B, hw⟩ => (pts_one (h B)).run pins s σ H Q I hw⟩
theorem x_elt {E : M D} (h : ∀ B, PE X e (tF (cB c B) E)) : PE X e (xF c E) := ⟨fun pins s σ H Q I ⟨B, hw⟩ => (h B).run pins s σ H Q I hw⟩
theorem e_lc {elt tg iter : Expr} {ifs : List Expr} {scope : Scope} {own : List (Str × Nat)} {pos : Pos} {A : M (List D)} {g : TG} {T : Tg} {js : List Nat} {G : M Bool} {E : M D} (hc : X.calm = true) (hN : X.N.Nodup) (hi : PI X tg iter (tJ c A)) (ok : BlkOk X.N X.env.scope scope own)
    (hg : ∀ (s : Shared) (H : Hp) (C : Addr) (cl : List (Str × Addr)) (fp : List Addr), PG (X.blk s H scope (compEnvC scope cl C X.env) fp) tg g) (hT : TgOk c.K g T js) (hj : ∀ j ∈ js, j ∈ own.map (·.2))
    (ht : ∀ (s : Shared) (H : Hp) (C : Addr) (cl : List (Str × Addr)) (fp : List Addr), PTs (X.blk s H scope (compEnvC scope cl C X.env) fp) ifs (xT c G))
    (he : ∀ (s : Shared) (H : Hp) (C : Addr) (cl : List (Str × Addr)) (fp : List Addr), PE (X.blk s H scope (compEnvC scope cl C X.env) fp) elt (xF c E)) (hs : ∀ x, foldedSetIterable iter X.env x = pure x := by intro _; rfl) :
    PE X (.ListComp elt [⟨tg, iter, ifs, 0⟩] scope pos) (tE c (lcE A T G E (own.map (·.2)))) :=
  (pe_lc hc hN hi ok hg ht he hs).imp fun _ _ _ h => lc_tr hT hj h
end

/-! ### statements -/
def skip : SM := fun ρ => .nx ρ
def seqS (S1 S2 : SM) : SM := fun ρ => match S1 ρ with
  | .nx ρ' => S2 ρ'
  | o => o
def brkS : SM := fun ρ => .bk ρ
def cntS : SM := fun ρ => .ct ρ
def asgS (i : Nat) (A : M Slot) : SM := A.thenS fun s ρ => .nx (ρ.set i (some s))
def tgS (A : M D) (T : Tg) : SM := A.thenS fun d ρ => match T d ρ with
  | some ρ' => .nx ρ'
  | none => .bad
def parS (i j : Nat) (R : M (List D)) : SM := R.thenS fun ds ρ => match ds with
  | [a, b] => .nx ((ρ.set i (some (false, a))).set j (some (false, b)))
  | _ => .bad
def setS (j : Nat) (A I : M D) : SM := A.thenS fun d ρ => if owned ρ j then (I.thenS fun i ρ2 => match ρ2[j]?, i with
  | some (some (true, .lst xs)), .int i => (match ixN xs.length i with
    | some k => .nx (ρ2.set j (some (true, .lst (xs.set k d))))
    | none => .bad)
  | _, _ => .bad) ρ else .bad
def appS (j : Nat) (A : M D) : SM := fun ρ => match ρ[j]? with
  | some (some (true, .lst _)) => (A.thenS fun d ρ2 => match ρ2[j]? with
    | some (some (true, .lst xs)) => if xs.length < sizeLine then .nx (ρ2.set j (some (true, .lst (xs ++ [d])))) else .bad
    | _ => .bad) ρ
  | _ => .bad
def augS (i : Nat) (f : D → D → Option Slot) (A : M D) : SM := fun ρ => match ρ[i]? with
  | some (some (_, d0)) => (A.thenS fun d ρ2 => match f d0 d with
    | some s => .nx (ρ2.set i (some s))
    | none => .bad) ρ
  | _ => .bad
def dropS (A : M Slot) : SM := A.thenS fun _ ρ => .nx ρ
def retS (A : M Slot) : SM := A.thenS fun s _ => .rt s
def retN : SM := fun _ => .rt (false, .non)
def retV (i : Nat) : SM := fun ρ => match ρ[i]? with
  | some (some s) => .rt s
  | _ => .bad
def ifS (G : M Bool) (S1 S2 : SM) : SM := G.thenS fun b => if b = true then S1 else S2
def whileF (G : M Bool) (S : SM) : Nat → SM
  | 0, _ => .bad
  | n + 1, ρ => match G ρ with
    | .ok true ρ1 => (match S ρ1 with
      | .nx ρ2 => whileF G S n ρ2
      | .ct ρ2 => whileF G S n ρ2
      | .bk ρ2 => .nx ρ2
      | .rt s => .rt s
      | .exc e ρ2 => .exc e ρ2
      | .bad => .bad)
    | .ok false ρ1 => .nx ρ1
    | .exc e ρ1 => .exc e ρ1
    | .bad => .bad
def forF (T : Tg) (S : SM) : List D → SM
  | [], ρ => .nx ρ
  | d :: ds, ρ => match T d ρ with
    | none => .bad
    | some ρ1 => match S ρ1 with
      | .nx ρ2 => forF T S ds ρ2
      | .ct ρ2 => forF T S ds ρ2
      | .bk ρ2 => .nx ρ2
      | .rt s => .rt s
      | .exc e ρ2 => .exc e ρ2
      | .bad => .bad
def forS (A : M (List D)) (T : Tg) (S : SM) : SM := A.thenS fun ds => forF T S ds

section
variable {X : Cx} {c : Ct} {e : Expr} {es : List Expr} {s : Stmt} {ss : List Stmt} {pos pos' : Pos} {S1 S2 : SM}
theorem ss_nil : PSs X [] (tS c skip) := pss_nil.imp fun D σ H ⟨F, ρ, S, k⟩ => k σ F H S
theorem ss_cons (h1 : PS X s (tS c S1)) (h2 : PSs X ss (tS c S2)) : PSs X (s :: ss) (tS c (seqS S1 S2)) := by
  refine (pss_cons h1 h2).imp fun D σ H ⟨F, ρ, S, k⟩ => ⟨F, ρ, S, ?_⟩
  unfold seqS at k
  cases q : S1 ρ with
  | nx ρ' => rw [q] at k; exact fun σ' F' H' S' => ⟨F', ρ', S', k⟩
  | bk ρ' => rw [q] at k; exact k
  | ct ρ' => rw [q] at k; exact k
  | rt s => rw [q] at k; exact k
  | exc e ρ' => rw [q] at k; exact k
  | bad => rw [q] at k; exact k
theorem ss_one (h1 : PS X s (tS c S1)) : PSs X [s] (tS c S1) := pss_one h1
theorem s_pass : PS X (.Pass pos) (tS c skip) := ps_pass.imp fun D σ H ⟨F, ρ, S, k⟩ => k σ F H S
theorem s_brk : PS X (.Break pos) (tS c brkS) := ps_break.imp fun D σ H ⟨F, ρ, S, k⟩ => k σ F H S
theorem s_cnt : PS X (.Continue pos) (tS c cntS) := ps_continue.imp fun D σ H ⟨F, ρ, S, k⟩ => k σ F H S
theorem asg_tr {A : M Slot} {i : Nat} {D : Ends} {σ : L2.St} {H : Hp} (h : tS c (asgS i A) D σ H) : tAsg (tE c A) (gName i) D σ H := by
  obtain ⟨F, ρ, S, k⟩ := h
  exact ⟨F, ρ, S, k.step fun s ρ1 x F1 H1 S1 r1 f1 h1 a1 => a1 _ F1 H1 (S1.set i r1.1 r1.2)⟩
theorem s_set {i : Nat} {x : Str} {A : M Slot} (hN : X.N.Nodup) (hi : X.N[i]? = some x) (hx : Loc X.env.scope x) (he : PE X e (tE c A)) (hs : swapsWith e (some (.Name x pos')) pos.line X.env = pure false := by rfl) (hf : X.fn x = true ∨ X.env.scope.names.lookup x = some .local := by first | exact .inl rfl | exact .inr rfl | assumption) :
    PS X (.Assign [.Name x pos'] e pos) (tS c (asgS i A)) := (ps_set hN hi hx he hs hf).imp fun _ _ _ h => asg_tr h
theorem s_setLc {i : Nat} {y : Str} {py : Pos} {elt tg iter : Expr} {ifs : List Expr} {scope : Scope} {own : List (Str × Nat)} {spos : Pos} {A : M (List D)} {g : TG} {T : Tg} {js : List Nat} {G : M Bool} {E : M D} (hc : X.calm = true) (hN : X.N.Nodup) (hy : X.N[i]? = some y) (hyl : X.env.scope.names.lookup y = some .local)
    (hsw : swapsWith (.ListComp elt [⟨tg, iter, ifs, 0⟩] scope pos) (some (.Name y py)) spos.line X.env = pure true) (hi : PI X tg iter (tJ c A)) (ok : BlkOk X.N X.env.scope scope own)
    (hg : ∀ (s : Shared) (H : Hp) (C : Addr) (cl : List (Str × Addr)) (fp : List Addr), PG (X.blk s H scope (compEnvC scope cl C X.env) fp) tg g) (hT : TgOk c.K g T js) (hj : ∀ j ∈ js, j ∈ own.map (·.2))
    (ht : ∀ (s : Shared) (H : Hp) (C : Addr) (cl : List (Str × Addr)) (fp : List Addr), PTs (X.blk s H scope (compEnvC scope cl C X.env) fp) ifs (xT c G))
    (he : ∀ (s : Shared) (H : Hp) (C : Addr) (cl : List (Str × Addr)) (fp : List Addr), PE (X.blk s H scope (compEnvC scope cl C X.env) fp) elt (xF c E)) (hs : ∀ x, foldedSetIterable iter X.env x = pure x := by intro _; rfl) :
    PS X (.Assign [.Name y py] (.ListComp elt [⟨tg, iter, ifs, 0⟩] scope pos) spos) (tS c (asgS i (lcE A T G E (own.map (·.2))))) := by
  refine (ps_setLc hc hN hy hyl hsw hi ok hg ht he hs).imp fun D σ H h => ?_
  have h2 := asg_tr h
  exact lc_tr hT hj h2
theorem s_tg {tg : Expr} {A : M D} {g : TG} {T : Tg} {js : List Nat} (he : PE X e (tF c A)) (hg : PG X tg g) (hT : TgOk c.K g T js) (hs : swapsWithSole [tg] e pos.line X.env = pure false := by rfl) (hw : swappedStores [tg] e X.env = pure none := by rfl)
    (h1 : (assignEach [tg] X.env).map (·.2) = [assign tg X.env] := by rfl) : PS X (.Assign [tg] e pos) (tS c (tgS A T)) := by
  refine (ps_asg he hg hs hw h1).imp fun D σ H ⟨F, ρ, S, k⟩ => ⟨F, ρ, S, k.step fun d ρ1 x F1 H1 S1 r1 f1 h1 a1 => ?_⟩
  cases q : T d ρ1 with
  | none => rw [q] at a1; exact a1.elim
  | some ρ2 =>
    rw [q] at a1
    exact hT.run _ _ _ _ _ _ d x ρ2 _ S1 r1 q fun σ2 T2 _ _ => a1 σ2 F1 H1 T2
theorem s_par {i j : Nat} {x y : Str} {a b : Expr} {R : M (List D)} {px py pt : Pos} {kt k2 pt2} (hc : X.calm = true) (hN : X.N.Nodup) (hi : X.N[i]? = some x) (hj : X.N[j]? = some y) (hij : i ≠ j)
    (hx : X.env.scope.names.lookup x = some .local) (hy : X.env.scope.names.lookup y = some .local) (ha : PA X [a, b] (tFs c R))
    (hw : swappedStores [.Tuple [.Name x px, .Name y py] kt pt] (.Tuple [a, b] k2 pt2) X.env = pure (some [x, y]))
    (hs : swapsWithSole [.Tuple [.Name x px, .Name y py] kt pt] (.Tuple [a, b] k2 pt2) pos.line X.env = pure false := by rfl) :
    PS X (.Assign [.Tuple [.Name x px, .Name y py] kt pt] (.Tuple [a, b] k2 pt2) pos) (tS c (parS i j R)) := by
  refine (ps_par hc hN hi hj hij hx hy ha hw hs).imp fun D σ H ⟨F, ρ, S, k⟩ => ⟨F, ρ, S, k.step fun ds ρ1 xs F1 H1 S1 r1 f1 h1 a1 => ?_⟩
  cases ds with
  | nil => exact a1.elim
  | cons d1 ds =>
    cases ds with
    | nil => exact a1.elim
    | cons d2 ds =>
      cases ds with
      | cons _ _ => exact a1.elim
      | nil =>
        obtain ⟨v, r, rfl, k1, k2⟩ := Reps.inv r1
        obtain ⟨w, r', rfl, k3, k4⟩ := k2.inv
        have k4 := k4.inv0
        subst k4
        exact ⟨v, w, rfl, a1 _ F1 H1 ((S1.setF i k1).setF j k3)⟩
theorem owned_get {ρ : Env} {j : Nat} (h : owned ρ j = true) : ∃ d, ρ[j]? = some (some (true, d)) := by
  unfold owned at h
  split at h
  · rename_i d e; exact ⟨d, e⟩
  · cases h
theorem s_setL {j : Nat} {x : Str} {i : Expr} {A I : M D} {px ps : Pos} (he : PE X e (tF c A)) (hx : PE X (.Name x px) (tVar j)) (hi : PE X i (tP c I))
    (ha : ∀ v, assign (.Subscript (.Name x px) i ps) X.env v = (do
      let ov ← holding [v] (eval (.Name x px) X.env)
      let iv ← holding [v, ov] (eval i X.env)
      standAt ps
      holding [v, ov, iv] (setItem ov iv v)
      release [v, ov, iv] []) := by intro _; rfl) (hs : swapsWithSole [.Subscript (.Name x px) i ps] e pos.line X.env = pure false := by rfl) (hw : swappedStores [.Subscript (.Name x px) i ps] e X.env = pure none := by rfl)
    (h1 : (assignEach [.Subscript (.Name x px) i ps] X.env).map (·.2) = [assign (.Subscript (.Name x px) i ps) X.env] := by rfl) :
    PS X (.Assign [.Subscript (.Name x px) i ps] e pos) (tS c (setS j A I)) := by
  refine (ps_asg he (pg_sub hx hi set_list ha) hs hw h1).imp fun D σ H ⟨F, ρ, S, k⟩ => ⟨F, ρ, S, k.step fun d ρ1 v F1 H1 S1 r1 f1 h1 a1 => ?_⟩
  by_cases ho : owned ρ1 j = true
  · rw [if_pos ho] at a1
    obtain ⟨d0, e0⟩ := owned_get ho
    obtain ⟨u, e1, p, rfl, _, _, k0⟩ := S1.sl j _ e0
    refine ⟨.ref p, e1, F1, ρ1, S1, a1.step fun i' ρ2 iv F2 H2 S2 r2 f2 h2 a2 => ?_⟩
    split at a2
    · rename_i xs i e2
      split at a2
      · rename_i k hk
        obtain ⟨u', e3, p', ep, _, _, k2⟩ := S2.sl j _ e2
        rw [e1] at e3; cases e3; cases ep
        obtain ⟨us, hu, ru⟩ := k2
        have r2 : iv = .int i := r2
        refine ⟨p, us, i, k, rfl, r2, hu, by rw [← ru.length]; exact hk, ?_⟩
        exact a2 σ F2 _ (S2.upd e2 e1 ⟨_, upd_same, ru.set k (Rep.mono f2 _ _ r1)⟩)
      · exact a2.elim
    · exact a2.elim
  · rw [if_neg ho] at a1
    exact a1.elim
theorem s_app {j : Nat} {x : Str} {A : M D} {px apos cpos : Pos} (hK : c.K = X.K) (hx : PE X (.Name x px) (tVar j)) (he : PE X e (tF c A))
    (hsw : swapsWith (.Call (.Attribute (.Name x px) "append" apos) [e] [] cpos) none pos.line X.env = pure false := by rfl)
    (hbase : attributeBase (.Name x px) "append" X.env (eval (.Name x px) X.env) = eval (.Name x px) X.env := by rfl)
    (hfew : ((backTo cpos (starEach [e] X.env)).all (fun x => !x.1) && (backToKw cpos (keywordEach [] X.env)).all (fun x => x.1.isSome)
      && decide ([e].length + ([] : List Keyword).length + (if ([] : List Keyword).isEmpty then 0 else 1) < 30)) = true := by rfl)
    (hline : (apos.endLine == cpos.line) = true := by rfl) (hs : starEach [e] X.env = (false, eval e X.env) :: starEach [] X.env := by rfl) (hplain : (backTo cpos (starEach [] X.env)).any (·.1) = false := by rfl) :
    PS X (.Expr (.Call (.Attribute (.Name x px) "append" apos) [e] [] cpos) pos) (tS c (appS j A)) := by
  refine (ps_expr (pe_bm PySem.F.plainAttrs_list PySem.F.slot_list_append PySem.F.type_list_append mt_append hx (pa_cons he pa_nil hs) hbase hfew hline hs hplain) hsw).imp fun D σ H ⟨F, ρ, S, k⟩ => ?_
  unfold appS at k
  split at k
  · rename_i ys e0
    obtain ⟨u, e1, p, rfl, _, _, us, hu, ru⟩ := S.sl j _ e0
    refine ⟨.ref p, e1, .inl ⟨rfl, us, .inl (.inl hu)⟩, F, ρ, S, k.step fun d ρ2 v F2 H2 S2 r2 f2 h2 a2 => ?_⟩
    split at a2
    · rename_i xs e2
      split at a2
      · rename_i hz
        obtain ⟨u', e3, p', ep, _, _, us2, hu2, ru2⟩ := S2.sl j _ e2
        rw [e1] at e3; cases e3; cases ep
        refine ⟨p, us2, v, rfl, rfl, hu2, by rw [← ru2.length]; exact hz, ?_⟩
        exact a2 σ F2 _ (S2.upd e2 e1 ⟨_, upd_same, ru2.append (Reps.cons r2 Reps.nil)⟩)
      · exact a2.elim
    · exact a2.elim
  · exact k.elim
/-- x op= e -/
def IpOk (X : Cx) (op : Operator) (r : R2) : Prop := PIp X op r
theorem s_aug {i : Nat} {x : Str} {A : M D} {op : Operator} {f : D → D → Option Slot} {r : R2} (hN : X.N.Nodup) (hi : X.N[i]? = some x) (hx : Loc X.env.scope x) (he : PE X e (tP c A)) (ho : OpR X (inplaceOp op) r) (ok : OpOk c.K f r) (hf : X.fn x = true ∨ X.env.scope.names.lookup x = some .local := by first | exact .inl rfl | exact .inr rfl | assumption) :
    PS X (.AugAssign (.Name x pos') op e pos) (tS c (augS i f A)) := by
  refine (ps_aug (ti := r) hN hi hx he (fun pins s σ H x y v u Q I rx ry h => ho pins s σ H x y v u Q I rx ry h) hf).imp fun D σ H ⟨F, ρ, S, k⟩ => ?_
  unfold augS at k
  split at k
  · rename_i o d0 e0
    obtain ⟨v, h1, h2⟩ := S.sl i _ e0
    refine ⟨v, h1, F, ρ, S, k.step fun d ρ2 y F2 H2 S2 r2 f2 g2 a2 => ?_⟩
    cases q : f d0 d with
    | none => rw [q] at a2; exact a2.elim
    | some s =>
      rw [q] at a2
      refine ok F2 H2 d0 d v y s _ S2.fh ((SlR.pk S.fh h2).mono f2 g2) r2 q fun z F3 H3 g3 n3 => ?_
      have w := n3.vr (c := c) S2
      exact a2 _ F3 H3 ((S2.grow g3).set i w.1 w.2)
  · exact k.elim
theorem s_drop {A : M Slot} (he : PE X e (tE c A)) (hs : swapsWith e none pos.line X.env = pure false := by rfl) : PS X (.Expr e pos) (tS c (dropS A)) :=
  (ps_expr he hs).imp fun D σ H ⟨F, ρ, S, k⟩ => ⟨F, ρ, S, k.step fun s ρ1 x F1 H1 S1 r1 f1 h1 a1 => a1 σ F1 H1 S1⟩
theorem s_doc {x j} : PS X (.Expr (.Constant (.str x) j pos) pos') (tS c skip) := ps_doc.imp fun D σ H ⟨F, ρ, S, k⟩ => k σ F H S
theorem s_ret {A : M Slot} (he : PE X e (tE c A)) : PS X (.Return (some e) pos) (tS c (retS A)) :=
  (ps_ret he).imp fun D σ H ⟨F, ρ, S, k⟩ => ⟨F, ρ, S, k.step fun s ρ1 x F1 H1 S1 r1 f1 h1 a1 => a1 x σ ρ1 F1 H1 S1 r1.1⟩
theorem s_retN : PS X (.Return none pos) (tS c retN) := ps_retN.imp fun D σ H ⟨F, ρ, S, k⟩ => k .non σ ρ F H S rfl
theorem s_retV {i : Nat} {x : Str} (h : PE X (.Name x pos') (tVar i)) : PS X (.Return (some (.Name x pos')) pos) (tS c (retV i)) := by
  refine (ps_ret h).imp fun D σ H ⟨F, ρ, S, k⟩ => ?_
  unfold retV at k
  split at k
  · rename_i s e
    obtain ⟨v, h1, h2⟩ := S.sl i _ e
    exact ⟨v, h1, k v σ ρ F H S h2⟩
  · exact k.elim
theorem s_if {t : Expr} {a b : List Stmt} {G : M Bool} (ht : PT X t (tT c G)) (ha : PSs X a (tS c S1)) (hb : PSs X b (tS c S2)) : PS X (.If t a b pos) (tS c (ifS G S1 S2)) := by
  refine (ps_if ht ha hb).imp fun D σ H ⟨F, ρ, S, k⟩ => ⟨F, ρ, S, k.step fun d ρ1 x F1 H1 S1' r1 f1 h1 a1 => ?_⟩
  have r1 : x = d := r1
  subst r1
  cases x with
  | true => exact ⟨F1, ρ1, S1', a1⟩
  | false => exact ⟨F1, ρ1, S1', a1⟩
theorem s_while {t : Expr} {body : List Stmt} {G : M Bool} (n : Nat) (hp : PassesOwn (model X.prog X.w) X.A X.env X.xe) (ht : PT X t (tT c G)) (hb : PSs X body (tS c S1)) : PS X (.While t body [] pos) (tS c (whileF G S1 n)) := by
  refine (ps_while hp ht hb).imp fun D σ H h => ⟨fun m σ H => tS c (whileF G S1 m) D σ H, ⟨n, h⟩, fun m σ H ⟨F, ρ, S, k⟩ => ?_⟩
  cases m with
  | zero => exact k.elim
  | succ m =>
    unfold whileF at k
    refine ⟨F, ρ, S, ?_⟩
    cases q : G ρ with
    | bad => rw [q] at k; exact k.elim
    | exc x ρ1 =>
      rw [q] at k
      exact fun F' H' cls d S' x => k σ F' H' cls d S' x
    | ok b ρ1 =>
      rw [q] at k
      intro b' F1 H1 S1' f1 h1 eb
      have eb : b' = b := eb
      subst eb
      cases b' with
      | false =>
        rw [if_neg Bool.false_ne_true]
        exact k σ F1 H1 S1'
      | true =>
        rw [if_pos rfl]
        dsimp only at k
        refine ⟨fun σ' H' => tS c (whileF G S1 m) D σ' H', fun σ' H' n => ⟨m, Nat.lt_succ_self m, n⟩, F1, ρ1, S1', ?_⟩
        cases q2 : S1 ρ1 with
        | nx ρ2 => rw [q2] at k; exact fun σ2 F2 H2 S2 => ⟨F2, ρ2, S2, k⟩
        | ct ρ2 => rw [q2] at k; exact fun σ2 F2 H2 S2 => ⟨F2, ρ2, S2, k⟩
        | bk ρ2 => rw [q2] at k; exact k
        | rt s => rw [q2] at k; exact k
        | exc x ρ2 => rw [q2] at k; exact k
        | bad => rw [q2] at k; exact k
/-- the data of an elder state are kept: F0 is raised -/
theorem SR.raise {K : Fr} {B F0 F H F1 : Hp} {σ : L2.St} {ρ : Env} (S : SR K B F0 F H σ ρ) (f0 : Sub F0 F1) (f : Sub F1 F) : SR K B F1 F H σ ρ := ⟨S.bh, S.fh, f, fun a o e => by
  rcases S.new a o e with z | z
  · exact .inl (f0 a o z)
  · exact .inr z, S.len, S.sl, S.sep⟩
theorem SR.lower {K : Fr} {B F0 F H F1 : Hp} {σ : L2.St} {ρ : Env} (S : SR K B F1 F H σ ρ) (f0 : Sub F0 F1) (n : ∀ a o, F1 a = some o → F0 a = some o ∨ B a = none) : SR K B F0 F H σ ρ := ⟨S.bh, S.fh, f0.trans S.f0, fun a o e => by
  rcases S.new a o e with z | z
  · exact n a o z
  · exact .inr z, S.len, S.sl, S.sep⟩
abbrev cF (c : Ct) (F0 : Hp) : Ct := { c with F0 := F0 }
theorem s_for {tg iter : Expr} {body : List Stmt} {A : M (List D)} {g : TG} {T : Tg} {js : List Nat} (hp : PassesOwn (model X.prog X.w) X.A X.env X.xe) (hc : X.calm = true) (hi : PI X tg iter (tK c A)) (hg : PG X tg g) (hT : TgOk c.K g T js) (hb : ∀ F0, PSs X body (tS (cF c F0) S1))
    (hs : ∀ x, foldedSetIterable iter X.env x = pure x := by intro _; rfl) : PS X (.For tg iter body [] pos) (tS c (forS A T S1)) := by
  have hb' : PSs X body (fun D σ H => ∃ F0, tS (cF c F0) S1 D σ H) := ⟨fun pins s σ H D I ⟨F0, hw⟩ => (hb F0).run pins s σ H D I hw⟩
  refine (ps_for hp hc hi hg hb' hs).imp fun D σ H ⟨F, ρ, S, k⟩ => ⟨F, ρ, S, k.step fun ds ρ1 J F1 H1 S1' r1 f1 h1 a1 => ?_⟩
  have r1 : JOk c.K F1 F1 J ds := r1
  refine ⟨fun i m σ' H' => m = ds.length - i ∧ i ≤ ds.length ∧ ∃ F' ρ', Sub F1 F' ∧ SRc c F' H' σ' ρ' ∧ SAft c (forF T S1 (ds.drop i) ρ') D, ⟨ds.length, rfl, Nat.zero_le _, F1, ρ1, Sub.refl _, S1', a1⟩, ?_⟩
  rintro i m σ' H' ⟨rfl, hi, F', ρ', f', S', k'⟩
  rcases Nat.lt_or_ge i ds.length with hlt | hge
  · refine .inr ⟨r1.go i H' (f'.trans S'.fh) hlt, fun σ2 H2 => ∃ F2 ρ2, Sub F1 F2 ∧ SRc c F2 H2 σ2 ρ2 ∧ SAft c (forF T S1 (ds.drop (i + 1)) ρ2) D, fun σ2 H2 hx => ⟨ds.length - (i + 1), by omega, rfl, by omega, hx⟩, fun x H2 y => ?_⟩
    obtain ⟨F2, d, g2, hd, rd⟩ := r1.yld i F' H' x H2 (f'.trans S'.fh) f' S'.fh hlt y
    have S2 := S'.grow g2
    have edrop : ds.drop i = d :: ds.drop (i + 1) := by
      rw [List.drop_eq_getElem_cons hlt]
      have : ds[i] = d := by
        rw [List.getElem?_eq_getElem hlt] at hd
        exact Option.some.inj hd
      rw [this]
    rw [edrop] at k'
    unfold forF at k'
    cases hTd : T d ρ' with
    | none => rw [hTd] at k'; exact k'.elim
    | some ρ2 =>
      rw [hTd] at k'
      dsimp only at k'
      refine hT.run _ _ _ _ _ _ d x ρ2 _ S2 rd hTd fun σ3 T3 _ _ => ?_
      have f3 : Sub F1 F2 := f'.trans g2.f
      refine ⟨F1, F2, ρ2, T3.raise S1'.f0 f3, ?_⟩
      have low : ∀ {σ4 : L2.St} {F4 H4 : Hp} {ρ4 : Env}, SRc (cF c F1) F4 H4 σ4 ρ4 → SRc c F4 H4 σ4 ρ4 := fun {σ4 F4 H4 ρ4} S4 => SR.lower (F1 := F1) S4 S1'.f0 S1'.new
      cases q2 : S1 ρ2 with
      | nx ρ3 => rw [q2] at k'; exact fun σ4 F4 H4 S4 => ⟨F4, ρ3, S4.f0, low S4, k'⟩
      | ct ρ3 => rw [q2] at k'; exact fun σ4 F4 H4 S4 => ⟨F4, ρ3, S4.f0, low S4, k'⟩
      | bk ρ3 => rw [q2] at k'; exact fun σ4 F4 H4 S4 => k' σ4 F4 H4 (low S4)
      | rt s => rw [q2] at k'; exact fun v σ4 ρ4 F4 H4 S4 r4 => k' v σ4 ρ4 F4 H4 (low S4) r4
      | exc x ρ3 => rw [q2] at k'; exact fun σ4 F4 H4 cls d S4 x4 => k' σ4 F4 H4 cls d (low S4) x4
      | bad => rw [q2] at k'; exact k'
  · refine .inl ⟨r1.stop i H' (f'.trans S'.fh) hge, ?_⟩
    have e0 : ds.drop i = [] := List.drop_eq_nil_of_le hge
    rw [e0] at k'
    exact k' σ' F' H' S'
end

/-! ### a def -/
def initE (N : Nat) (ds : List D) : Env := ds.map (fun d => some (false, d)) ++ List.replicate (N - ds.length) none
def runF (N n : Nat) (S : SM) : FM := fun ds => if ds.length = n then (match S (initE N ds) with
  | .nx _ => .ok (false, .non)
  | .rt s => .ok s
  | .exc e _ => .exc e
  | _ => .bad) else .bad
theorem runF_len {N n : Nat} {S : SM} (ds : List D) (h : runF N n S ds ≠ .bad) : ds.length = n := by
  unfold runF at h
  by_cases e : ds.length = n
  · exact e
  · rw [if_neg e] at h; exact absurd rfl h
theorem start_ok {K : Fr} {F H : Hp} {N : List Str} {ds : List D} {vs : List V} (fh : Sub F H) (r : Reps K F ds vs) (hl : vs.length ≤ N.length) : SR K H F F H (L2.start N vs) (initE N.length ds) where
  bh := Sub.refl _
  fh := fh
  f0 := Sub.refl _
  new := fun a o e => .inl e
  len := by
    unfold L2.start initE
    rw [List.length_append, List.length_append, List.length_map, List.length_map, List.length_replicate, List.length_replicate, r.length]
  sl := fun i s e => by
    unfold initE at e
    unfold L2.start
    by_cases hi : i < ds.length
    · rw [List.getElem?_append_left (by simpa using hi), List.getElem?_map, List.getElem?_eq_getElem hi] at e
      have e : (false, ds[i]) = s := by simpa using e
      subst e
      obtain ⟨v, h1, h2⟩ := r.get (List.getElem?_eq_getElem hi)
      refine ⟨v, ?_, h2⟩
      rw [List.getElem?_append_left (by rw [List.length_map, ← r.length]; exact hi), List.getElem?_map, h1]
      rfl
    · rw [List.getElem?_append_right (by simpa using hi), List.getElem?_replicate] at e
      split at e <;> cases e
  sep := fun i j p di dj e _ _ _ => by
    unfold initE at e
    by_cases hi : i < ds.length
    · rw [List.getElem?_append_left (by simpa using hi), List.getElem?_map, List.getElem?_eq_getElem hi] at e
      cases e
    · rw [List.getElem?_append_right (by simpa using hi), List.getElem?_replicate] at e
      split at e <;> cases e
section
variable {P : Program} {w : World} {K : Fr} {mg : Str → Option Value} {base : Heap}
/-- a def keeps its promise -/
theorem ok_fun {x qual : Str} {s : Stmt} {f : Addr} {fd : FuncData} {N ps : List Str} {k : Nat} {S : SM} (F : Fun K x qual s f fd) (Sc : FnScope N ps (defScope s)) (hl : ps.length ≤ N.length)
    (hbody : ∀ (cdv : Value) (A : Around) (outer : List PySem.Env) (s0 : Shared) (H : Hp) (E : XK), Room k (A.deeper (envOfC qual (defScope s) s0.heap.objs.size f cdv)) → ∀ B F0,
      PSs (cxOf (CX P w) P w K mg base N qual (defScope s) f cdv A outer s0 H E) (defBody s) (tS ⟨K, mg, B, F0, fun cls d _ H => E cls d H⟩ S)) :
    FnOk P w K mg base (CX P w) (k + 1) f fd ps (spF K mg (runF N.length ps.length S) ps.length) := by
  refine F.okX Sc (fun vs H Q E h => h.1) (fun cdv A outer s0 H vs Q E hr h => ?_)
  obtain ⟨hvl, F0, ds, fh, r, h⟩ := h
  refine ⟨_, hbody cdv A outer s0 H E hr H F0, F0, _, start_ok fh r (by rw [hvl]; exact hl), ?_⟩
  have hdl : ds.length = ps.length := by rw [r.length, hvl]
  unfold runF at h
  rw [if_pos hdl] at h
  have gr : ∀ {F' H' : Hp} {σ' : L2.St} {ρ' : Env}, SR K H F0 F' H' σ' ρ' → Grow F0 H F' H' := fun {F' H' σ' ρ'} S' => ⟨S'.f0, S'.bh, S'.fh, S'.new⟩
  cases q : S (initE N.length ds) with
  | nx ρ' => rw [q] at h; exact fun σ' F' H' S' => h .non F' H' (gr S') rfl
  | rt s =>
    rw [q] at h
    intro v σ' ρ' F' H' S' r'
    refine h v F' H' (gr S') ?_
    obtain ⟨o, d⟩ := s
    cases o with
    | false => exact r'
    | true =>
      obtain ⟨a, rfl, fa, ba, k⟩ := r'
      exact ⟨a, rfl, ba, fa, k⟩
  | exc x ρ' => rw [q] at h; exact fun σ' F' H' cls d S' x' => h F' H' cls d (gr S') x'
  | bk ρ' => rw [q] at h; exact h.elim
  | ct ρ' => rw [q] at h; exact h.elim
  | bad => rw [q] at h; exact h.elim
end
end PM
namespace PM
open PySem L2 PyProof.Rows

/-! ### methods of texts -/
section
variable {X : Cx} {c : Ct} {e o : Expr} {es : List Expr} {apos cpos : Pos} {id : String} {name : Str} {r : V → List V → Hp → VK → Prop}
def smE (f : List Nat → List D → Option Slot) (A : M D) (R : M (List D)) : M Slot := A.bind fun d => match d with
  | .str a => R.bind fun ds => M.lift (f a ds)
  | _ => fun _ => .bad
def SmOk (K : Fr) (f : List Nat → List D → Option Slot) (r : V → List V → Hp → VK → Prop) : Prop := ∀ (F H : Hp) (a : List Nat) (ds : List D) (xs : List V) (s : Slot) (Q : VK), Sub F H → PkRs K F H ds xs → f a ds = some s →
  (∀ v F' H', Grow F H F' H' → VN K H F' H' s v → Q v H') → r (.str (st a)) xs H Q
theorem e_sm {f : List Nat → List D → Option Slot} {A : M D} {R : M (List D)} (slot : PySem.Slot "str" name id) (hty : typeOf (.builtin id) = pure (.type "method_descriptor")) (hm : MtR X id r) (ok : SmOk c.K f r) (ho : PE X o (tP c A)) (ha : PA X (e :: es) (tPs c R))
    (hbase : attributeBase o name X.env (eval o X.env) = eval o X.env := by rfl)
    (hfew : ((backTo cpos (starEach (e :: es) X.env)).all (fun x => !x.1) && (backToKw cpos (keywordEach [] X.env)).all (fun x => x.1.isSome)
      && decide ((e :: es).length + ([] : List Keyword).length + (if ([] : List Keyword).isEmpty then 0 else 1) < 30)) = true := by rfl)
    (hline : (apos.endLine == cpos.line) = true := by rfl) (hs : starEach (e :: es) X.env = (false, eval e X.env) :: starEach es X.env := by rfl) (hplain : (backTo cpos (starEach es X.env)).any (·.1) = false := by rfl) :
    PE X (.Call (.Attribute o name apos) (e :: es) [] cpos) (tE c (smE f A R)) := by
  refine (pe_bm F.plainAttrs_str slot hty hm ho ha hbase hfew hline hs hplain).imp fun σ H Q ⟨F, ρ, S, k⟩ => ⟨F, ρ, S, k.step fun d ρ1 x F1 H1 S1 r1 f1 h1 a1 => ?_⟩
  split at a1
  · rename_i a
    have r1 : x = .str (st a) := r1
    subst r1
    refine ⟨rfl, F1, ρ1, S1, a1.step fun ds ρ2 xs F2 H2 S2 r2 f2 h2 a2 => ?_⟩
    obtain ⟨s, e, k⟩ := a2.lift S2
    exact ok F2 H2 a ds xs s Q S2.fh r2 e k
  · exact a1.elim
end
def joinL (a : List Nat) : List (List Nat) → List Nat
  | [] => []
  | y :: ys => y ++ (ys.map fun z => a ++ z).flatten
def strsD : List D → Option (List (List Nat))
  | [] => some []
  | .str s :: r => (strsD r).map fun q => s :: q
  | _ => none
def joinD : List Nat → List D → Option Slot
  | a, [.lst xs] => (strsD xs).bind fun ys => if (ys.map (·.length)).sum + ys.length * a.length ≤ 16777216 then some (false, .str (joinL a ys)) else none
  | a, [.tup xs] => (strsD xs).bind fun ys => if (ys.map (·.length)).sum + ys.length * a.length ≤ 16777216 then some (false, .str (joinL a ys)) else none
  | _, _ => none
section
variable {K : Fr} {F H : Hp}
theorem strsD_reps : ∀ {xs : List D} {vs : List V} {ys : List (List Nat)}, Reps K F xs vs → strsD xs = some ys → vs = (ys.map st).map V.str
  | [], vs, ys, r, e => by cases e; exact r.inv0
  | d :: xs, vs, ys, r, e => by
    cases d with
    | str s =>
      obtain ⟨v, w, rfl, r1, r2⟩ := r.inv
      unfold strsD at e
      cases q : strsD xs with
      | none => rw [q] at e; cases e
      | some zs =>
        rw [q] at e
        cases e
        have r1 : v = .str (st s) := r1
        rw [r1, strsD_reps r2 q]
        rfl
    | _ => cases e
theorem glue_fold (a : List Nat) : ∀ (ys : List (List Nat)) (acc : List Nat), ((ys.map st).foldl (fun acc p => acc ++ (st a).cps ++ p.cps) acc.toArray) = (acc ++ (ys.map fun z => a ++ z).flatten).toArray
  | [], acc => by simp
  | y :: ys, acc => by
    rw [List.map_cons, List.foldl_cons, show acc.toArray ++ (st a).cps ++ (st y).cps = (acc ++ a ++ y).toArray by simp [st], glue_fold a ys]
    simp
theorem join_st (a : List Nat) : ∀ ys : List (List Nat), Txt.join (st a) (ys.map st) = st (joinL a ys)
  | [] => rfl
  | y :: ys => by
    show Str.mk _ = Str.mk _
    have := glue_fold a ys y
    simp only [List.map_cons, List.drop_succ_cons, List.drop_zero, List.headD_cons]
    have t2 : List.foldl (fun acc p => acc ++ a.toArray ++ p.cps) y.toArray (List.map st ys) = (y ++ (List.map (fun z => a ++ z) ys).flatten).toArray := this
    rw [t2]
    rfl
def rJoin (K : Fr) : V → List V → Hp → VK → Prop := fun x xs H Q => ∃ a p, ∃ ys : List Str, x = .str a ∧ xs = [.ref p] ∧ (SqL K H p (ys.map V.str) ∨ SqT K H p (ys.map V.str)) ∧
    (ys.map (·.length)).sum + ys.length * a.length ≤ 16777216 ∧ Q (.str (Txt.join a ys)) H
theorem sum_st : ∀ ys : List (List Nat), ((ys.map st).map (·.length)).sum = (ys.map (·.length)).sum
  | [] => rfl
  | y :: ys => by
    rw [List.map_cons, List.map_cons, List.sum_cons, sum_st ys, List.map_cons, List.sum_cons]
    simp [st, Str.length]
theorem ok_join : SmOk K joinD (rJoin K) := by
  intro F H a ds xs s Q fh r e k
  have fin : ∀ ys : List (List Nat), (ys.map (·.length)).sum + ys.length * a.length ≤ 16777216 → ((ys.map st).map (·.length)).sum + (ys.map st).length * (st a).length ≤ 16777216 := fun ys h => by
    rw [sum_st, List.length_map]
    simpa [st, Str.length] using h
  unfold joinD at e
  split at e
  · rename_i xs
    cases q : strsD xs with
    | none => rw [q] at e; cases e
    | some ys =>
      rw [q] at e
      dsimp only [Option.bind] at e
      split at e
      · rename_i hz
        cases e
        obtain ⟨x, rfl, b, vs, rfl, h1, k1⟩ := r.one
        have := strsD_reps k1 q
        subst this
        exact ⟨_, b, ys.map st, rfl, rfl, .inl (.inl h1), fin ys hz, by rw [join_st]; exact vnS fh k⟩
      · cases e
  · rename_i xs
    cases q : strsD xs with
    | none => rw [q] at e; cases e
    | some ys =>
      rw [q] at e
      dsimp only [Option.bind] at e
      split at e
      · rename_i hz
        cases e
        obtain ⟨x, rfl, r1⟩ := r.one
        obtain ⟨b, vs, rfl, h1, k1⟩ := pkTup r1
        have := strsD_reps k1 q
        subst this
        exact ⟨_, b, ys.map st, rfl, rfl, .inr (fh.sqT h1), fin ys hz, by rw [join_st]; exact vnS fh k⟩
      · cases e
  · cases e
theorem op_join {X : Cx} : MtR X "str.join" (rJoin X.K) := mt_join
/-- x.rjust(n, c) -/
def rjustD : List Nat → List D → Option Slot
  | a, [.int n, .str [f]] => if -1048576 ≤ n ∧ n ≤ 16777216 then some (false, .str (List.replicate (n.toNat - a.length) f ++ a)) else none
  | _, _ => none
def rRjust : V → List V → Hp → VK → Prop := fun x xs H Q => ∃ a n f, x = .str (st a) ∧ xs = [.int n, .str (st [f])] ∧ -1048576 ≤ n ∧ n ≤ 16777216 ∧ Q (.str (st (List.replicate (n.toNat - a.length) f ++ a))) H
theorem st_list {x : Str} {l : List Nat} (h : x.cps.toList = l) : x = st l := by
  cases x with
  | mk c =>
    subst h
    simp [st]
theorem op_rjust {X : Cx} : MtR X "str.rjust" rRjust := by
  intro pins s σ H x xs v us Q I rx rs h
  obtain ⟨a, n, f, rfl, rfl, h1, h2, h⟩ := h
  obtain ⟨t, rfl⟩ := rx
  cases rs with
  | cons r1 rs =>
    cases rs with
    | cons r2 rs =>
      cases rs
      obtain ⟨u, rfl⟩ := r1
      obtain ⟨z, rfl⟩ := r2
      refine rjust_fill ?_ rfl fun t' k => ⟨.str (st (List.replicate (n.toNat - a.length) f ++ a)), H, I.tok k, ⟨t', ?_⟩, h⟩
      · unfold PadOk
        have e1 : fitsSsize n = true := by unfold fitsSsize; simp; omega
        have e2 : Builtin.Str.tooLong n.toNat = false := by unfold Builtin.Str.tooLong; simp [sizeLine]; omega
        rw [e1, e2]; rfl
      · rw [st_list (rjustF_list _ _ _)]
        rfl
theorem ok_rjust : SmOk K rjustD rRjust := by
  intro F H a ds xs s Q fh r e k
  unfold rjustD at e
  split at e
  · split at e
    · cases e
      rename_i hz
      obtain ⟨x, y, rfl, r1, r2⟩ := r.two
      have r1 : x = .int _ := r1
      have r2 : y = .str _ := r2
      subst r1; subst r2
      exact ⟨_, _, _, rfl, rfl, hz.1, hz.2, vnS fh k⟩
    · cases e
  · cases e
end
/-! ### xs[i] op= e of an owned list -/
def augIxS (j : Nat) (I : M D) (f : D → D → Option Slot) (A : M D) : SM := fun ρ => if owned ρ j then (I.thenS fun i ρ1 => match ρ1[j]?, i with
  | some (some (true, .lst xs)), .int i => (match L2.atI xs i with
    | some d0 => (A.thenS fun d ρ2 => match f d0 d with
      | some (false, z) => (match ρ2[j]? with
        | some (some (true, .lst ys)) => (match ixN ys.length i with
          | some k => .nx (ρ2.set j (some (true, .lst (ys.set k z))))
          | none => .bad)
        | _ => .bad)
      | _ => .bad) ρ1
    | none => .bad)
  | _, _ => .bad) ρ else .bad
section
variable {X : Cx} {c : Ct} {e : Expr} {pos : Pos}
theorem get_lst : PGet X (rIxL X.K) := by
  intro pins s σ H x y v u Q I rx ry h
  obtain ⟨p, xs, i, z, rfl, rfl, hq, he, q⟩ := h
  cases rx
  obtain ⟨t, rfl⟩ := ry
  obtain ⟨its, r, pl, hz⟩ := I.list hq
  obtain ⟨j, h1, h2, h3, h4, h5⟩ := atI_get he
  obtain ⟨w, ew, rw'⟩ := r.get h2
  have hl := r.length
  have hn := line63
  have fin : EP X pins σ Q w s := ⟨z, H, I, rw', q⟩
  by_cases h0 : 0 ≤ i
  · have hj : i.toNat = j := by
      rw [seqIndex_of h0 h5] at h1
      exact Option.some.inj h1
    exact wpAny_getItem_list pl.isList h0 (by omega) (by rw [hj]; simpa using ew) fin
  · have hj : (i + (its.toArray.size : Int)).toNat = j := by
      rw [seqIndex_neg (by omega) h4] at h1
      rw [List.size_toArray, ← hl]
      exact Option.some.inj h1
    exact wpAny_getItem_list_neg pl.isList (by omega) (by rw [List.size_toArray]; omega) (by omega) (by rw [hj]; simpa using ew) fin
theorem s_augIx {j : Nat} {x : Str} {i : Expr} {I A : M D} {px tpos : Pos} {op : Operator} {f : D → D → Option Slot} {r : R2} (hk : c.K = X.K) (hx : PE X (.Name x px) (tVar j)) (hi : PE X i (tP c I)) (he : PE X e (tP c A)) (ho : OpR X (inplaceOp op) r) (ok : OpOk c.K f r)
    (ha : ∀ ov iv new, augStore i ov iv new = (do holding [new, ov, iv] (setItem ov iv new); release [new, ov, iv] []; pure .next) := by intros; rfl) :
    PS X (.AugAssign (.Subscript (.Name x px) i tpos) op e pos) (tS c (augIxS j I f A)) := by
  refine (ps_augS hx hi get_lst he (tip := r) (fun pins s σ H x y v u Q I rx ry h => ho pins s σ H x y v u Q I rx ry h) set_list ha).imp fun D σ H ⟨F, ρ, S, k⟩ => ?_
  unfold augIxS at k
  split at k
  · rename_i hw
    obtain ⟨d0, e0⟩ := owned_get hw
    obtain ⟨u, e1, p, rfl, _, _, k0⟩ := S.sl j _ e0
    refine ⟨.ref p, e1, F, ρ, S, k.step fun i' ρ1 iv F1 H1 S1 r1 f1 h1 a1 => ?_⟩
    split at a1
    · rename_i xs i e2
      split at a1
      · rename_i d0 hd
        obtain ⟨u', e3, p', ep, _, _, k1⟩ := S1.sl j _ e2
        rw [e1] at e3; cases e3; cases ep
        obtain ⟨us, hu, ru⟩ := k1
        have r1 : iv = .int i := r1
        obtain ⟨v0, hv0, rv0⟩ := ru.atI hd
        refine ⟨p, us, i, v0, rfl, r1, .inl (.inl hu), hv0, F1, ρ1, S1, a1.step fun d ρ2 y F2 H2 S2 r2 f2 h2 a2 => ?_⟩
        split at a2
        · rename_i z hz
          refine ok F2 H2 d0 d v0 y _ _ S2.fh (Rep.pk S2.fh (Rep.mono f2 _ _ rv0)) r2 hz fun zv F3 H3 g3 n3 => ?_
          have S3 := S2.grow g3
          split at a2
          · rename_i ys e4
            split at a2
            · rename_i k hk2
              obtain ⟨u', e5, p', ep, _, _, k2⟩ := S3.sl j _ e4
              rw [e1] at e5; cases e5; cases ep
              obtain ⟨us2, hu2, ru2⟩ := k2
              refine ⟨p, us2, i, k, rfl, r1, hu2, by rw [← ru2.length]; exact hk2, ?_⟩
              exact a2 σ F3 _ (S3.upd e4 e1 ⟨_, upd_same, ru2.set k n3⟩)
            · exact a2.elim
          · exact a2.elim
        · exact a2.elim
      · exact a1.elim
    · exact a1.elim
  · exact k.elim
end
/-! ### a chain of two comparisons -/
def chn (f f' : D → D → Option Slot) (A1 A2 A3 : M D) : M Slot := A1.bind fun d1 => A2.bind fun d2 => (M.lift (f d1 d2)).bind fun s => match s with
  | (false, .bl true) => A3.bind fun d3 => M.lift (f' d2 d3)
  | (false, .bl false) => ret (false, .bl false)
  | _ => fun _ => .bad
section
variable {X : Cx} {c : Ct} {a b e : Expr} {pos : Pos}
theorem chn_tr {f f' : D → D → Option Slot} {r r' : R2} {A1 A2 A3 : M D} (ok : OpOk c.K f r) (ok' : OpOk c.K f' r') {σ : L2.St} {H : Hp} {Q : VK} (h : tE c (chn f f' A1 A2 A3) σ H Q) : tChain r r' (tP c A1) (tP c A2) (tP c A3) σ H Q := by
  obtain ⟨F, ρ, S, k⟩ := h
  refine ⟨F, ρ, S, k.step fun d1 ρ1 x F1 H1 S1 r1 f1 h1 a1 => ⟨F1, ρ1, S1, a1.step fun d2 ρ2 y F2 H2 S2 r2 f2 h2 a2 => ?_⟩⟩
  unfold M.bind M.lift at a2
  cases q : f d1 d2 with
  | none => rw [q] at a2; exact a2.elim
  | some s =>
    rw [q] at a2
    dsimp only at a2
    refine ok F2 H2 d1 d2 x y s _ S2.fh (r1.mono f2 h2) r2 q fun z F3 H3 g3 n3 => ?_
    have S3 := S2.grow g3
    have a3 := Aft.up a2 g3.f g3.h
    split at a3
    · have n3 : z = .bl true := n3
      refine ⟨true, n3, ?_⟩
      rw [if_pos rfl]
      refine ⟨F3, ρ2, S3, Aft.step (f := fun d3 => M.lift (f' d2 d3)) a3 fun d3 ρ3 w F4 H4 S4 r4 f4 h4 a4 => ?_⟩
      obtain ⟨s, e, k⟩ := a4.lift S4
      exact ok' F4 H4 d2 d3 y w s Q S4.fh (r2.mono (g3.f.trans f4) (g3.h.trans h4)) r4 e k
    · have n3 : z = .bl false := n3
      refine ⟨false, n3, ?_⟩
      rw [if_neg Bool.false_ne_true]
      exact a3 _ F3 H3 S3 (Sub.refl _) (Sub.refl _) ⟨rfl, fun z => by cases z⟩
    · exact a3.elim
theorem e_chn {op op' : CmpOp} {f f' : D → D → Option Slot} {r r' : R2} {A1 A2 A3 : M D} (ho : OpR X (compareOp op) r) (ho' : OpR X (compareOp op') r') (ok : OpOk c.K f r) (ok' : OpOk c.K f' r') (ha : PE X a (tP c A1)) (hb : PE X b (tP c A2)) (he : PE X e (tP c A3))
    (hm : lastMarks [op, op'] [b, e] = false := by with_unfolding_all rfl) : PE X (.Compare a [op, op'] [b, e] pos) (tE c (chn f f' A1 A2 A3)) := (pe_chain ho ho' ha hb he hm).imp fun _ _ _ h => chn_tr ok ok' h
theorem t_chn {op op' : CmpOp} {f f' : D → D → Option Slot} {r r' : R2} {A1 A2 A3 : M D} (ho : OpR X (compareOp op) r) (ho' : OpR X (compareOp op') r') (ok : OpOk c.K f r) (ok' : OpOk c.K f' r') (ha : PE X a (tP c A1)) (hb : PE X b (tP c A2)) (he : PE X e (tP c A3))
    (hm : lastMarks [op, op'] [b, e] = false := by with_unfolding_all rfl) : PT X (.Compare a [op, op'] [b, e] pos) (tT c (asB (chn f f' A1 A2 A3))) := by
  refine (pt_chain ho ho' ha hb he hm).imp fun σ H Q h => ?_
  obtain ⟨F, ρ, S, k⟩ := asB_tr h
  exact chn_tr ok ok' ⟨F, ρ, S, k⟩
/-- - -/
def una (f : D → Option Slot) (A : M D) : M Slot := A.bind fun d => M.lift (f d)
def negD : D → Option Slot
  | .int i => some (false, .int (-i))
  | _ => none
theorem e_neg {A : M D} (ha : PE X a (tP c A)) : PE X (.UnaryOp .USub a pos) (tE c (una negD A)) := by
  refine (pe_un un_neg ha).imp fun σ H Q ⟨F, ρ, S, k⟩ => ⟨F, ρ, S, k.step fun d ρ1 x F1 H1 S1 r1 f1 h1 a1 => ?_⟩
  obtain ⟨s, e, k⟩ := a1.lift S1
  unfold negD at e
  split at e
  · cases e
    exact ⟨_, r1, vnI S1.fh k⟩
  · cases e
end

/-! ### op= -/
def addIA : D → D → Option Slot
  | .int i, .int j => some (false, .int (i + j))
  | .str s, .str t => if s.length + t.length ≤ sizeLine then some (false, .str (s ++ t)) else none
  | _, _ => none
def rAddIA : R2 := fun x y H Q => rAddI x y H Q ∨ rAddS x y H Q
theorem iop_addA {X : Cx} : OpR X (inplaceOp .Add) rAddIA := OpR.or (r := rAddI) iop_add (r' := rAddS) iop_add_str
def mulID : D → D → Option Slot
  | .int i, .int j => if (-(2 ^ 64) < i ∧ i < 2 ^ 64) ∨ (-(2 ^ 64) < j ∧ j < 2 ^ 64) then some (false, .int (i * j)) else none
  | _, _ => none
theorem iop_mulI {X : Cx} : OpR X (inplaceOp .Mult) (rI CMul fun i j => .int (i * j)) := iop_mul
section
variable {K : Fr}
theorem ok_addI : OpOk K addIA rAddIA := by
  intro F H d1 d2 x y s Q fh r1 r2 e k
  unfold addIA at e
  split at e
  · cases e
    exact .inl ⟨_, _, r1, r2, vnI fh k⟩
  · split at e
    · cases e
      rename_i s t hz
      exact .inr ⟨_, _, r1, r2, hz, by rw [st_app]; exact vnS fh k⟩
    · cases e
  · cases e
theorem ok_mulI : OpOk K mulID (rI CMul fun i j => .int (i * j)) := by
  intro F H d1 d2 x y s Q fh r1 r2 e k
  unfold mulID at e
  split at e
  · split at e
    · cases e
      rename_i hm
      exact ⟨_, _, r1, r2, hm, vnI fh k⟩
    · cases e
  · cases e
end
end PM
namespace PM
open PySem L2 PyProof.Rows

/-! ### module constants; calls in a comprehension -/
section
variable {X : Cx} {c : Ct} {x : Str} {pos : Pos}
theorem e_gint {i : Int} (hg : Gl X x) (hm : ∃ t, X.mg x = some (.int i t)) (hd : (x == ("__debug__" : Str)) = false := by decide) : PE X (.Name x pos) (tE c (cst (.int i))) := by
  obtain ⟨t, hm⟩ := hm
  exact e_cst (pe_glob (v := .int i) hg hm ⟨t, rfl⟩ hd) fun _ => rfl
theorem e_gstr {z : Str} {s : List Nat} (hg : Gl X x) (hm : ∃ t, X.mg x = some (.str z t)) (hz : z = st s := by rfl) (hd : (x == ("__debug__" : Str)) = false := by decide) : PE X (.Name x pos) (tE c (cst (.str s))) := by
  obtain ⟨t, hm⟩ := hm
  exact e_cst (pe_glob (v := .str z) hg hm ⟨t, rfl⟩ hd) fun _ => by rw [hz]; rfl
theorem tkB {X : Cx} : Takes X (fun _ _ _ _ => False) := fun _ _ ⟨_, _, _, _, _, _, _, _, _, _, _, _, _, _, _, _, w⟩ => w.elim
/-- pure of test: a statement that is left out -/
def fuel : Nat := 1000000
end

/-! ### the end -/
def CXU (P : Program) : CXT := fun outer H s E e s' => ∃ w, L2.CX P w outer H s E e s'
theorem cxu {P : Program} {w : World} {K : Fr} {mg : Str → Option Value} {base : Heap} {k : Nat} {f : Addr} {fd : FuncData} {ps : List Str} {sp : Sp} (G : FnOk P w K mg base (L2.CX P w) k f fd ps sp) : FnOk P w K mg base (CXU P) k f fd ps sp :=
  ⟨G.len, fun A outer s H args us vs Q E hr he hb hv hs => codeAny_mono (G.run A outer s H args us vs Q E hr he hb hv hs) fun r s' h => by
    cases r with
    | error e => exact ⟨w, h⟩
    | ok fl => cases fl <;> exact h⟩
theorem cxu_no {P : Program} (H : Hp) (s : Shared) (e : Value) (s' : Shared) (h : CXU P [] H s (fun _ _ _ => False) e s') : False := by
  obtain ⟨w, a, B, H', cls, d, h⟩ := h
  exact h.2.2.2.2.2.2.2
def isLst (o : Obj) : Bool := match o.cls with
  | .type n => n == "list"
  | _ => false
/-- no list among the known objects -/
def noLst (K : PySem.W.Frag) : Bool := K.all fun p => !isLst p.2
theorem noLst_ok {K : PySem.W.Frag} (h : noLst K = true) {a : Addr} {o : Obj} (e : K.lookup a = some o) (c : o.cls = .type "list") : False := by
  have m : ∃ p ∈ K, p.2 = o := by
    clear h
    induction K with
    | nil => cases e
    | cons p K ih =>
      rw [List.lookup_cons] at e
      split at e
      · cases e
        exact ⟨p, List.mem_cons_self, rfl⟩
      · obtain ⟨q, hq, e'⟩ := ih e
        exact ⟨q, List.mem_cons_of_mem _ hq, e'⟩
  obtain ⟨p, hp, rfl⟩ := m
  have := List.all_eq_true.mp h p hp
  unfold isLst at this
  rw [c] at this
  exact absurd this (by decide)
abbrev AlM : Type := He.AlD × Bool
def obsM (n : Nat) (fa : List He.Fa) (fn : List He.DefD) (g : Addr → Option Obj) : AlM := (He.obsD fa fn (He.frG g (He.asD g n)), noLst (He.frG g (He.asD g n)))
def hookM (n : Nat) (fa : List He.Fa) (fn : List He.DefD) : PySem.W.Hook where
  α := AlM
  obs := fun s => obsM n fa fn s.heap.get?
  val := fun _ => (He.valD fn, true)
  says := fun _ h => ∃ K : PySem.W.Frag, K.In h ∧ He.SaysD fa fn K ∧ noLst K = true
  of := fun _ _ e => ⟨_, He.frG_in, congrArg (fun z : AlM => z.1) e, congrArg (fun z : AlM => z.2) e⟩
  keeps := fun _ _ _ ⟨K, hK, c⟩ k => ⟨K, PySem.W.Frag.In.keeps hK k, c⟩
theorem obsM_eq {n : Nat} {fa : List He.Fa} {fn : List He.DefD} {g : Addr → Option Obj} {s : Shared} (h : ∀ a, g a = s.heap.get? a) : obsM n fa fn g = (hookM n fa fn).obs s := by
  have e : g = s.heap.get? := funext h
  rw [e] <;> rfl
/-- the script's datum -/
def scr (ns : List Int) : D := .lst (ns.map D.int)
theorem reps_ints {K : Fr} {F : Hp} : ∀ ns : List Int, Reps K F (ns.map D.int) (ns.map V.int)
  | [] => Reps.nil
  | n :: ns => Reps.cons rfl (reps_ints ns)
theorem law_sp {K : Fr} {mg : Str → Option Value} {M : FM} (hK : noLst K = true) {n : Nat} (hM : ∀ ns : List Int, ns.length ≤ n → M [scr ns] = .ok (false, .bl true)) (H : Hp) (a : Addr) (ns : List Int) (hl : ns.length ≤ n) (hS : SqL K H a (ns.map V.int)) :
    spF K mg M 1 [.ref a] H (fun v _ => v = .bl true) fun _ _ _ => False := by
  refine ⟨rfl, H, [scr ns], Sub.refl _, ?_, ?_⟩
  · refine Reps.cons ?_ Reps.nil
    unfold scr Rep
    rcases hS with h | ⟨o, its, m, h1, h2, _⟩
    · exact ⟨a, _, rfl, h, reps_ints ns⟩
    · exact (noLst_ok hK h1 h2).elim
  · rw [hM ns hl]
    exact fun v F' H' g n => n
end PM
namespace PM
open PySem L2 PyProof.Rows

/-! ### what simp may use -/
theorem mulOk_l {i j : Int} (h1 : -(2 ^ 64) < i) (h2 : i < 2 ^ 64) : mulOk i j = true := by
  unfold mulOk
  rw [decide_eq_true (show -(2 ^ 64) < i ∧ i < 2 ^ 64 from ⟨h1, h2⟩)]
  simp
theorem mulOk_r {i j : Int} (h1 : -(2 ^ 64) < j) (h2 : j < 2 ^ 64) : mulOk i j = true := by
  unfold mulOk
  rw [decide_eq_true (show -(2 ^ 64) < j ∧ j < 2 ^ 64 from ⟨h1, h2⟩)]
  simp
theorem atI_nat {α : Type} {xs : List α} {i : Nat} (h : i < xs.length) : atI xs (i : Int) = xs[i]? := by
  unfold atI ixN
  simp [h]
theorem ixN_nat {n i : Nat} (h : i < n) : ixN n (i : Int) = some i := by
  unfold ixN
  simp [h]
theorem atI_int {α : Type} {xs : List α} {i : Int} (h0 : 0 ≤ i) (h : i < xs.length) : atI xs i = xs[i.toNat]? := by
  have := atI_nat (xs := xs) (i := i.toNat) (by omega)
  rwa [Int.toNat_of_nonneg h0] at this
theorem cut1 {α : Type} (xs : List α) : cut xs (some 1) none = xs.drop 1 := by
  unfold cut
  rw [show HT.sIx xs.length 0 (some 1) = min 1 xs.length from HT.sIx_nat xs.length 0 1, HT.sIx_none]
  cases xs with
  | nil => rfl
  | cons x r => simp
/-! ### equality of ints, texts, lists of ints -/
theorem shp_int (i : Int) : SeqAt.shaped (PyData.int i) = true := by simp [SeqAt.shaped, PyData.canLay0, PyData.depth]
/-- characters -/
def okS (s : List Nat) : Bool := s.all (· < 0x110000)
theorem shp_str {i : List Nat} (h : okS i = true) : SeqAt.shaped (PyData.str (st i)) = true := by
  have : PyData.strOk (st i) = true := by
    unfold PyData.strOk st
    unfold okS at h
    rw [List.all_toArray]
    exact h
  simp [SeqAt.shaped, PyData.canLay0, PyData.depth, this]
theorem eqv_int (i j : Int) : eqvD (.int i) (.int j) = some (decide (i = j)) := by
  unfold eqvD toPy
  simp only [shp_int, Bool.and_self, if_true]
  rfl
theorem st_inj {i j : List Nat} (h : st i = st j) : i = j := by
  have := congrArg (fun s : Str => s.cps.toList) h
  simpa [st] using this
theorem eqv_str {i j : List Nat} (hi : okS i = true) (hj : okS j = true) : eqvD (.str i) (.str j) = some (decide (i = j)) := by
  unfold eqvD toPy
  simp only [shp_str hi, shp_str hj, Bool.and_self, if_true]
  congr 1
  unfold PyData.eqv
  by_cases e : i = j
  · subst e; simp
  · have : st i ≠ st j := fun z => e (st_inj z)
    simp [e, this]
theorem toPys_ints : ∀ l : List Int, toPys (l.map D.int) = some (l.map PyData.int)
  | [] => rfl
  | i :: l => by
    rw [List.map_cons, toPys, toPys_ints l]
    rfl
theorem eqvAll_ints : ∀ a b : List Int, PyData.eqvAll (a.map PyData.int) (b.map PyData.int) = decide (a = b)
  | [], [] => by simp [PyData.eqvAll]
  | [], _ :: _ => by simp [PyData.eqvAll]
  | _ :: _, [] => by simp [PyData.eqvAll]
  | n :: r, k :: q => by
    simp only [List.map_cons, PyData.eqvAll, eqvAll_ints r q]
    unfold PyData.eqv
    by_cases h : n = k <;> simp [h]
theorem eqv_ints (a b : List Int) : eqvD (.lst (a.map D.int)) (.lst (b.map D.int)) = some (decide (a = b)) := by
  unfold eqvD toPy
  rw [toPys_ints, toPys_ints]
  simp only [Option.map_some, PySem.W.shaped_ints, Bool.and_self, if_true]
  congr 1
  unfold PyData.eqv
  exact eqvAll_ints a b
theorem eqv_self {d : D} {p : PyData} (h : toPy d = some p) (hs : SeqAt.shaped p = true) : eqvD d d = some true := by
  unfold eqvD
  rw [h]
  simp only [hs, Bool.and_self, if_true]
  have : PyData.canLay0 p = true := by
    unfold SeqAt.shaped at hs
    exact (Bool.and_eq_true_iff.mp hs).1
  rw [SeqAt.eqv_refl p this]
/-! ### loops -/
section
variable {G : M Bool} {S : SM} {T : Tg} {n : Nat} {ρ ρ1 ρ2 ρ3 : Env} {d : D} {ds : List D} {s : Slot} {e : Exn}
theorem while_go (h : G ρ = .ok true ρ1) (h2 : S ρ1 = .nx ρ2) : whileF G S (n + 1) ρ = whileF G S n ρ2 := by
  rw [whileF, h]; dsimp only; rw [h2]
theorem while_ct (h : G ρ = .ok true ρ1) (h2 : S ρ1 = .ct ρ2) : whileF G S (n + 1) ρ = whileF G S n ρ2 := by
  rw [whileF, h]; dsimp only; rw [h2]
theorem while_stop (h : G ρ = .ok false ρ1) : whileF G S (n + 1) ρ = .nx ρ1 := by
  rw [whileF, h]
theorem while_rt (h : G ρ = .ok true ρ1) (h2 : S ρ1 = .rt s) : whileF G S (n + 1) ρ = .rt s := by
  rw [whileF, h]; dsimp only; rw [h2]
theorem while_bk (h : G ρ = .ok true ρ1) (h2 : S ρ1 = .bk ρ2) : whileF G S (n + 1) ρ = .nx ρ2 := by
  rw [whileF, h]; dsimp only; rw [h2]
theorem for_nil : forF T S [] ρ = .nx ρ := rfl
theorem for_go (h : T d ρ = some ρ1) (h2 : S ρ1 = .nx ρ2) : forF T S (d :: ds) ρ = forF T S ds ρ2 := by
  rw [forF, h]; dsimp only; rw [h2]
theorem for_ct (h : T d ρ = some ρ1) (h2 : S ρ1 = .ct ρ2) : forF T S (d :: ds) ρ = forF T S ds ρ2 := by
  rw [forF, h]; dsimp only; rw [h2]
theorem for_rt (h : T d ρ = some ρ1) (h2 : S ρ1 = .rt s) : forF T S (d :: ds) ρ = .rt s := by
  rw [forF, h]; dsimp only; rw [h2]
theorem for_bk (h : T d ρ = some ρ1) (h2 : S ρ1 = .bk ρ2) : forF T S (d :: ds) ρ = .nx ρ2 := by
  rw [forF, h]; dsimp only; rw [h2]
theorem fuel_eq (m : Nat) (h : m ≤ 100000) : ∃ k, fuel = m + 1 + k := ⟨1000000 - (m + 1), by unfold fuel; omega⟩
end
theorem comp_go {T : Tg} {G : M Bool} {E : M D} {vs : List Nat} {d x : D} {ds xs : List D} {ρ ρ1 ρ2 ρ3 ρ4 : Env} (hT : T d (wipeE ρ vs) = some ρ1) (hG : G ρ1 = .ok true ρ2) (hE : E ρ2 = .ok x ρ3) (hr : compF T G E vs ds (restE ρ ρ3 vs) = .ok xs ρ4) :
    compF T G E vs (d :: ds) ρ = .ok (x :: xs) ρ4 := by
  rw [compF, hT]; dsimp only; rw [hG]; dsimp only; rw [hE]; dsimp only; rw [hr]
theorem comp_no {T : Tg} {G : M Bool} {E : M D} {vs : List Nat} {d : D} {ds xs : List D} {ρ ρ1 ρ2 ρ4 : Env} (hT : T d (wipeE ρ vs) = some ρ1) (hG : G ρ1 = .ok false ρ2) (hr : compF T G E vs ds (restE ρ ρ2 vs) = .ok xs ρ4) :
    compF T G E vs (d :: ds) ρ = .ok xs ρ4 := by
  rw [compF, hT]; dsimp only; rw [hG]; dsimp only; rw [hr]
theorem lc_ok {A : M (List D)} {T : Tg} {G : M Bool} {E : M D} {vs : List Nat} {ds xs : List D} {ρ ρ1 ρ2 : Env} (hA : A ρ = .ok ds ρ1) (hc : clean vs ρ1 = true) (hl : ds.length < sizeLine) (h : compF T G E vs ds ρ1 = .ok xs ρ2) : lcE A T G E vs ρ = .ok (true, .lst xs) ρ2 := by
  unfold lcE M.bind
  rw [hA]
  dsimp only
  rw [hc, decide_eq_true hl]
  simp only [Bool.and_self, if_true]
  rw [h]
theorem seq_nx {S1 S2 : SM} {ρ ρ1 : Env} (h : S1 ρ = .nx ρ1) : seqS S1 S2 ρ = S2 ρ1 := by
  unfold seqS
  rw [h]
theorem run_rt {N n : Nat} {S : SM} {ds : List D} {s : Slot} (hl : ds.length = n) (h : S (initE N ds) = .rt s) : runF N n S ds = .ok s := by
  unfold runF
  rw [if_pos hl, h]
theorem for_nx {A : M (List D)} {T : Tg} {S : SM} {ds : List D} {ρ ρ1 : Env} (h : A ρ = .ok ds ρ1) : forS A T S ρ = forF T S ds ρ1 := by
  unfold forS M.thenS
  rw [h]
end PM
namespace LawW
open PySem PySem.Spec PyProof.Rows L2 PM
/-! ### the text -/
def topS (i : Nat) : Stmt := PySem.Challenge.pw_inkedtrue_k66_bits_and_classes.main.body.getD i (.Pass ⟨0, 0, 0, 0⟩)
abbrev s__law_numbers : Stmt := topS 11
abbrev N__law_numbers : List Str := ["script", "at", "count", "cell", "numbers", "k", "mixed"]
theorem sc__law_numbers : FnScope N__law_numbers ["script", "at", "count"] (defScope s__law_numbers) := ⟨rfl, rfl, rfl, by decide +kernel, rfl, by decide +kernel, by decide +kernel⟩
abbrev s__law_text : Stmt := topS 15
abbrev N__law_text : List Str := ["n", "text", "k"]
theorem sc__law_text : FnScope N__law_text ["n"] (defScope s__law_text) := ⟨rfl, rfl, rfl, by decide +kernel, rfl, by decide +kernel, by decide +kernel⟩
abbrev s__law_is_text : Stmt := topS 17
abbrev N__law_is_text : List Str := ["told", "due"]
theorem sc__law_is_text : FnScope N__law_is_text ["told", "due"] (defScope s__law_is_text) := ⟨rfl, rfl, rfl, by decide +kernel, rfl, by decide +kernel, by decide +kernel⟩
abbrev s_bit_text : Stmt := topS 1
abbrev N_bit_text : List Str := ["n", "found"]
theorem sc_bit_text : FnScope N_bit_text ["n"] (defScope s_bit_text) := ⟨rfl, rfl, rfl, by decide +kernel, rfl, by decide +kernel, by decide +kernel⟩
abbrev s_rest_bits : Stmt := topS 7
abbrev N_rest_bits : List Str := ["n"]
theorem sc_rest_bits : FnScope N_rest_bits ["n"] (defScope s_rest_bits) := ⟨rfl, rfl, rfl, by decide +kernel, rfl, by decide +kernel, by decide +kernel⟩
abbrev s_wide_text : Stmt := topS 2
abbrev N_wide_text : List Str := ["n", "size"]
theorem sc_wide_text : FnScope N_wide_text ["n", "size"] (defScope s_wide_text) := ⟨rfl, rfl, rfl, by decide +kernel, rfl, by decide +kernel, by decide +kernel⟩
abbrev s__law_whole : Stmt := topS 12
abbrev N__law_whole : List Str := ["value"]
theorem sc__law_whole : FnScope N__law_whole ["value"] (defScope s__law_whole) := ⟨rfl, rfl, rfl, by decide +kernel, rfl, by decide +kernel, by decide +kernel⟩
abbrev s__law_is_number : Stmt := topS 18
abbrev N__law_is_number : List Str := ["told", "due"]
theorem sc__law_is_number : FnScope N__law_is_number ["told", "due"] (defScope s__law_is_number) := ⟨rfl, rfl, rfl, by decide +kernel, rfl, by decide +kernel, by decide +kernel⟩
abbrev s_bit_count : Stmt := topS 4
abbrev N_bit_count : List Str := ["n", "found"]
theorem sc_bit_count : FnScope N_bit_count ["n"] (defScope s_bit_count) := ⟨rfl, rfl, rfl, by decide +kernel, rfl, by decide +kernel, by decide +kernel⟩
abbrev s_number_of_bits : Stmt := topS 3
abbrev N_number_of_bits : List Str := ["text", "found", "bit"]
theorem sc_number_of_bits : FnScope N_number_of_bits ["text"] (defScope s_number_of_bits) := ⟨rfl, rfl, rfl, by decide +kernel, rfl, by decide +kernel, by decide +kernel⟩
abbrev s_class_of : Stmt := topS 6
abbrev N_class_of : List Str := ["n"]
theorem sc_class_of : FnScope N_class_of ["n"] (defScope s_class_of) := ⟨rfl, rfl, rfl, by decide +kernel, rfl, by decide +kernel, by decide +kernel⟩
abbrev s_number_of : Stmt := topS 8
abbrev N_number_of : List Str := ["size", "rest"]
theorem sc_number_of : FnScope N_number_of ["size", "rest"] (defScope s_number_of) := ⟨rfl, rfl, rfl, by decide +kernel, rfl, by decide +kernel, by decide +kernel⟩
abbrev s__law_one : Stmt := topS 19
abbrev N__law_one : List Str := ["n", "more", "text", "size"]
theorem sc__law_one : FnScope N__law_one ["n", "more"] (defScope s__law_one) := ⟨rfl, rfl, rfl, by decide +kernel, rfl, by decide +kernel, by decide +kernel⟩
abbrev s__law_power : Stmt := topS 13
abbrev N__law_power : List Str := ["size", "power", "k"]
theorem sc__law_power : FnScope N__law_power ["size"] (defScope s__law_power) := ⟨rfl, rfl, rfl, by decide +kernel, rfl, by decide +kernel, by decide +kernel⟩
abbrev s__law_drawn : Stmt := topS 14
abbrev N__law_drawn : List Str := ["numbers", "at", "size", "n", "k"]
theorem sc__law_drawn : FnScope N__law_drawn ["numbers", "at", "size"] (defScope s__law_drawn) := ⟨rfl, rfl, rfl, by decide +kernel, rfl, by decide +kernel, by decide +kernel⟩
abbrev s__law_worth : Stmt := topS 16
abbrev N__law_worth : List Str := ["text", "n", "sign"]
theorem sc__law_worth : FnScope N__law_worth ["text"] (defScope s__law_worth) := ⟨rfl, rfl, rfl, by decide +kernel, rfl, by decide +kernel, by decide +kernel⟩
abbrev s_class_counts : Stmt := topS 9
abbrev N_class_counts : List Str := ["numbers", "found", "n"]
theorem sc_class_counts : FnScope N_class_counts ["numbers"] (defScope s_class_counts) := ⟨rfl, rfl, rfl, by decide +kernel, rfl, by decide +kernel, by decide +kernel⟩
abbrev s__law_counted : Stmt := topS 20
abbrev N__law_counted : List Str := ["listed", "due", "n", "told", "k"]
theorem sc__law_counted : FnScope N__law_counted ["listed"] (defScope s__law_counted) := ⟨rfl, rfl, rfl, by decide +kernel, rfl, by decide +kernel, by decide +kernel⟩
abbrev s_law : Stmt := topS 21
abbrev N_law : List Str := ["script", "numbers", "power", "n", "text", "more", "listed", "k", "kept"]
theorem sc_law : FnScope N_law ["script"] (defScope s_law) := ⟨rfl, rfl, rfl, by decide +kernel, rfl, by decide +kernel, by decide +kernel⟩
/-! ### what it does -/
def L1__law_numbers : SM := (ifS (asB (bin geD (pvar 3) (pk (bin powD (pk (cst (.int 10))) (pk (cst (.int 18)))))))
  (seqS (appS 4 (pk (bin modD (pvar 3) (pk (cst (.int 1009))))))
  (asgS 3 (bin fdivD (pvar 3) (pk (cst (.int 1009))))))
  (seqS (asgS 6 (bin modD (pk (bin addD (pk (bin addD (pk (bin mulD (pvar 3) (pk (cst (.int 48271))))) (pk (bin mulD (pk (bin addD (pvar 5) (pk (cst (.int 1))))) (pk (cst (.int 69621))))))) (pk (bin mulD (pvar 1) (pk (cst (.int 4001))))))) (pk (cst (.int 2147483647)))))
  (seqS (asgS 6 (bin modD (pk (bin addD (pk (bin mulD (pvar 6) (pvar 6))) (pk (bin mulD (pk (cst (.int 16807))) (pk (bin addD (pvar 5) (pk (cst (.int 3))))))))) (pk (cst (.int 2147483629)))))
  (appS 4 (pk (bin modD (pk (bin fdivD (pvar 6) (pk (cst (.int 7))))) (pk (cst (.int 1009)))))))))
def S__law_numbers : SM := (seqS (asgS 3 (bin mulD (pk (cst (.int 1000003))) (pk (bin addD (pvar 1) (pk (cst (.int 1)))))))
  (seqS (ifS (asB (bin ltD (pvar 1) (pk (blt lenD (acons (pvar 0) anil)))))
  (asgS 3 (blt intD (acons (pk (bin ixD (pvar 0) (pvar 1))) anil)))
  skip)
  (seqS (ifS (asB (bin ltD (pvar 3) (pk (cst (.int 0)))))
  (asgS 3 (bin subD (pk (cst (.int 1))) (pk (bin mulD (pk (cst (.int 2))) (pvar 3)))))
  skip)
  (seqS (asgS 4 (lstE anil))
  (seqS (forS (rng1 (acons (pvar 2) anil)) (tgN 5) L1__law_numbers)
  (retV 4))))))
def M__law_numbers : FM := runF 7 3 S__law_numbers
def L1__law_text : SM := (seqS (ifS (asB (bin eqD (pvar 0) (pk (cst (.int 0)))))
  (retV 1)
  skip)
  (seqS (asgS 1 (bin addD (pk (bin ixD (pk (cst (.str [48, 49]))) (pk (bin modD (pvar 0) (pk (cst (.int 2))))))) (pvar 1)))
  (asgS 0 (bin fdivD (pvar 0) (pk (cst (.int 2)))))))
def S__law_text : SM := (seqS (asgS 1 (cst (.str [])))
  (seqS (forS (rng1 (acons (pk (cst (.int 70))) anil)) (tgN 2) L1__law_text)
  (retV 1)))
def M__law_text : FM := runF 3 1 S__law_text
def S__law_is_text : SM := (retS (vand (isi .str (pvar 0)) (bin eqD (pvar 0) (pvar 1))))
def M__law_is_text : FM := runF 2 2 S__law_is_text
def W1_bit_text : M Bool := (asB (bin gtD (pvar 0) (pk (cst (.int 0)))))
def L1_bit_text : SM := (seqS (asgS 1 (bin addD (pk (blt strD (acons (pk (bin modD (pvar 0) (pk (cst (.int 2))))) anil))) (pvar 1)))
  (augS 0 fdivD (pk (cst (.int 2)))))
def S_bit_text : SM := (seqS (asgS 1 (cst (.str [])))
  (seqS (whileF W1_bit_text L1_bit_text fuel)
  (retV 1)))
def M_bit_text : FM := runF 2 1 S_bit_text
def S_rest_bits : SM := (retS (sli (pk (callE M_bit_text (cvw 0 cnil))) (oin (pk (cst (.int 1)))) ono))
def M_rest_bits : FM := runF 1 1 S_rest_bits
def S_wide_text : SM := (retS (smE rjustD (pk (callE M_bit_text (cvw 0 cnil))) (acons (pvar 1) (acons (pk (cst (.str [48]))) anil))))
def M_wide_text : FM := runF 2 2 S_wide_text
def S__law_whole : SM := (retS (vand (isi .int (pvar 0)) (vnot (isi .bl (pvar 0)))))
def M__law_whole : FM := runF 1 1 S__law_whole
def S__law_is_number : SM := (retS (vand (callE M__law_whole (cvw 0 cnil)) (bin eqD (pvar 0) (pvar 1))))
def M__law_is_number : FM := runF 2 2 S__law_is_number
def W1_bit_count : M Bool := (asB (bin gtD (pvar 0) (pk (cst (.int 0)))))
def L1_bit_count : SM := (seqS (augS 1 addIA (pk (cst (.int 1))))
  (augS 0 fdivD (pk (cst (.int 2)))))
def S_bit_count : SM := (seqS (asgS 1 (cst (.int 0)))
  (seqS (whileF W1_bit_count L1_bit_count fuel)
  (retV 1)))
def M_bit_count : FM := runF 2 1 S_bit_count
def L1_number_of_bits : SM := (asgS 1 (bin addD (pk (bin mulD (pk (cst (.int 2))) (pvar 1))) (pk (blt intD (acons (pk (bin eqD (pvar 2) (pk (cst (.str [49]))))) anil)))))
def S_number_of_bits : SM := (seqS (asgS 1 (cst (.int 0)))
  (seqS (forS (src (pk (var 0))) (tgN 2) L1_number_of_bits)
  (retV 1)))
def M_number_of_bits : FM := runF 3 1 S_number_of_bits
def S_class_of : SM := (retS (callE M_bit_count (cvw 0 cnil)))
def M_class_of : FM := runF 1 1 S_class_of
def S_number_of : SM := (retS (iff (asB (bin gtD (pvar 0) (pk (cst (.int 0))))) (callE M_number_of_bits (cval (pk (bin addD (pk (cst (.str [49]))) (pvar 1))) cnil)) (cst (.int 0))))
def M_number_of : FM := runF 2 2 S_number_of
def T1__law_one : SM := (asgS 2 (callE M__law_text (cvw 0 cnil)))
def T2__law_one : SM := (asgS 3 (blt lenD (acons (pvar 2) anil)))
def T3__law_one : SM := (ifS (tor (tnot (tru (pk (callE M__law_is_text (cval (pk (callE M_bit_text (cvw 0 cnil))) (cvw 2 cnil)))))) (tnot (tru (pk (callE M__law_is_text (cval (pk (callE M_rest_bits (cvw 0 cnil))) (cval (pk (sli (pvar 2) (oin (pk (cst (.int 1)))) ono)) cnil)))))))
  (retS (cst (.bl false)))
  skip)
def T4__law_one : SM := (ifS (tor (tnot (tru (pk (callE M__law_is_text (cval (pk (callE M_wide_text (cvw 0 (cvw 3 cnil)))) (cvw 2 cnil)))))) (tnot (tru (pk (callE M__law_is_text (cval (pk (callE M_wide_text (cvw 0 (cval (pk (bin addD (pvar 3) (pvar 1))) cnil)))) (cval (pk (bin addD (pk (bin mulD (pk (cst (.str [48]))) (pvar 1))) (pvar 2))) cnil)))))))
  (retS (cst (.bl false)))
  skip)
def T5__law_one : SM := (ifS (tor (tnot (tru (pk (callE M__law_is_number (cval (pk (callE M_bit_count (cvw 0 cnil))) (cvw 3 cnil)))))) (tnot (tru (pk (callE M__law_is_number (cval (pk (callE M_number_of_bits (cval (pk (bin addD (pk (bin mulD (pk (cst (.str [48]))) (pvar 1))) (pvar 2))) cnil))) (cvw 0 cnil)))))))
  (retS (cst (.bl false)))
  skip)
def T6__law_one : SM := (ifS (asB (bin gtD (pvar 3) (pk (cst (.int 20)))))
  (retS (cst (.bl true)))
  skip)
def T7__law_one : SM := (retS (vand (callE M__law_is_number (cval (pk (callE M_class_of (cvw 0 cnil))) (cvw 3 cnil))) (callE M__law_is_number (cval (pk (callE M_number_of (cvw 3 (cval (pk (sli (pvar 2) (oin (pk (cst (.int 1)))) ono)) cnil)))) (cvw 0 cnil)))))
def S__law_one : SM := (seqS T1__law_one
  (seqS T2__law_one
  (seqS T3__law_one
  (seqS T4__law_one
  (seqS T5__law_one
  (seqS T6__law_one
  T7__law_one))))))
def M__law_one : FM := runF 4 2 S__law_one
def L1__law_power : SM := (asgS 1 (bin mulD (pvar 1) (pk (cst (.int 2)))))
def S__law_power : SM := (seqS (asgS 1 (cst (.int 1)))
  (seqS (forS (rng1 (acons (pvar 0) anil)) (tgN 2) L1__law_power)
  (retV 1)))
def M__law_power : FM := runF 3 1 S__law_power
def L1__law_drawn : SM := (asgS 3 (bin addD (pk (bin mulD (pvar 3) (pk (cst (.int 1009))))) (pk (bin ixD (pvar 0) (pk (bin addD (pvar 1) (pvar 4)))))))
def S__law_drawn : SM := (seqS (asgS 3 (cst (.int 0)))
  (seqS (forS (rng1 (acons (pk (cst (.int 7))) anil)) (tgN 4) L1__law_drawn)
  (retS (bin modD (pk (blt intD (acons (pvar 3) anil))) (pk (callE M__law_power (cvw 2 cnil)))))))
def M__law_drawn : FM := runF 5 3 S__law_drawn
def L1__law_worth : SM := (asgS 1 (bin addD (pk (bin mulD (pk (cst (.int 2))) (pvar 1))) (pk (blt intD (acons (pk (bin eqD (pvar 2) (pk (cst (.str [49]))))) anil)))))
def S__law_worth : SM := (seqS (asgS 1 (cst (.int 0)))
  (seqS (forS (src (pk (var 0))) (tgN 2) L1__law_worth)
  (retV 1)))
def M__law_worth : FM := runF 3 1 S__law_worth
def L1_class_counts : SM := (augIxS 1 (pk (callE M_class_of (cvw 2 cnil))) addIA (pk (cst (.int 1))))
def S_class_counts : SM := (seqS (asgS 1 (bin mulD (pk (lstE (acons (pk (cst (.int 0))) anil))) (pk (bin addD (pk (cst (.int 20))) (pk (cst (.int 1)))))))
  (seqS (forS (src (pk (var 0))) (tgN 2) L1_class_counts)
  (retV 1)))
def M_class_counts : FM := runF 3 1 S_class_counts
def L1__law_counted : SM := (setS 1 (pk (bin addD (pk (bin ixD (pvar 1) (pk (blt lenD (acons (pk (callE M__law_text (cvw 2 cnil))) anil))))) (pk (cst (.int 1))))) (pk (blt lenD (acons (pk (callE M__law_text (cvw 2 cnil))) anil))))
def L2__law_counted : SM := (ifS (tnot (tru (pk (callE M__law_is_number (cval (pk (bin ixD (pvar 3) (pvar 4))) (cval (pk (bin ixD (pvar 1) (pvar 4))) cnil))))))
  (retS (cst (.bl false)))
  skip)
def T1__law_counted : SM := (asgS 1 (bin mulD (pk (lstE (acons (pk (cst (.int 0))) anil))) (pk (cst (.int 21)))))
def T2__law_counted : SM := (forS (src (pk (var 0))) (tgN 2) L1__law_counted)
def T3__law_counted : SM := (asgS 3 (callE M_class_counts (cvw 0 cnil)))
def T4__law_counted : SM := (ifS (tor (tnot (tru (pk (isi .lst (pvar 3))))) (asB (bin neD (pk (blt lenD (acons (pvar 3) anil))) (pk (cst (.int 21))))))
  (retS (cst (.bl false)))
  skip)
def T5__law_counted : SM := (forS (rng1 (acons (pk (cst (.int 21))) anil)) (tgN 4) L2__law_counted)
def T6__law_counted : SM := (setS 3 (pk (bin addD (pk (bin ixD (pvar 3) (pk (cst (.int 0))))) (pk (cst (.int 1))))) (pk (cst (.int 0))))
def T7__law_counted : SM := (appS 3 (pk (cst (.int 4))))
def T8__law_counted : SM := (retS (bin eqD (pk (callE M_class_counts (cvw 0 cnil))) (pvar 1)))
def S__law_counted : SM := (seqS T1__law_counted
  (seqS T2__law_counted
  (seqS T3__law_counted
  (seqS T4__law_counted
  (seqS T5__law_counted
  (seqS T6__law_counted
  (seqS T7__law_counted
  T8__law_counted)))))))
def M__law_counted : FM := runF 5 1 S__law_counted
def L1_law : SM := (ifS (tnot (tru (pk (callE M__law_one (cvw 3 (cval (pk (bin modD (pk (bin ixD (pvar 1) (pk (cst (.int 19))))) (pk (cst (.int 13))))) cnil))))))
  (retS (cst (.bl false)))
  skip)
def C1_law : M D := (pk (bin ixD (pk (cst (.str [48, 49]))) (pk (bin modD (pk (bin ixD (pvar 1) (pk (bin addD (pk (cst (.int 20))) (pvar 7))))) (pk (cst (.int 2)))))))
def X1_law : M PM.Slot := lcE (rng1 (acons (pk (bin modD (pk (bin ixD (pvar 1) (pk (cst (.int 45))))) (pk (cst (.int 20))))) anil)) (tgN 7) yes C1_law [7]
def L2_law : SM := (appS 6 (pk (bin modD (pk (blt intD (acons (pk (bin addD (pk (bin mulD (pk (bin ixD (pvar 5) (pvar 7))) (pk (cst (.int 1009))))) (pk (bin ixD (pvar 5) (pk (bin addD (pvar 7) (pk (cst (.int 29))))))))) anil))) (pk (callE M__law_power (cval (pk (bin modD (pk (bin ixD (pvar 5) (pk (bin subD (pk (bin addD (pvar 7) (pk (cst (.int 30))))) (pk (bin modD (pk (bin ixD (pvar 1) (pk (cst (.int 47))))) (pk (cst (.int 30))))))))) (pk (cst (.int 21))))) cnil))))))
def T1_law : SM := (asgS 1 (callE M__law_numbers (cvw 0 (cval (pk (cst (.int 0))) (cval (pk (cst (.int 60))) cnil)))))
def T2_law : SM := (ifS (tnot (tru (pk (callE M__law_one (cval (pk (callE M__law_drawn (cvw 1 (cval (pk (cst (.int 0))) (cval (pk (bin modD (pk (bin ixD (pvar 1) (pk (cst (.int 7))))) (pk (cst (.int 61))))) cnil))))) (cval (pk (bin modD (pk (bin ixD (pvar 1) (pk (cst (.int 8))))) (pk (cst (.int 13))))) cnil))))))
  (retS (cst (.bl false)))
  skip)
def T3_law : SM := (ifS (tnot (tru (pk (callE M__law_one (cval (pk (callE M__law_drawn (cvw 1 (cval (pk (cst (.int 9))) (cval (pk (bin modD (pk (bin ixD (pvar 1) (pk (cst (.int 16))))) (pk (cst (.int 21))))) cnil))))) (cval (pk (bin modD (pk (bin ixD (pvar 1) (pk (cst (.int 17))))) (pk (cst (.int 13))))) cnil))))))
  (retS (cst (.bl false)))
  skip)
def T4_law : SM := (asgS 2 (callE M__law_power (cval (pk (bin modD (pk (bin ixD (pvar 1) (pk (cst (.int 18))))) (pk (cst (.int 60))))) cnil)))
def T5_law : SM := (forS (src (pk (lstE (acons (pk (bin subD (pvar 2) (pk (cst (.int 1))))) (acons (pk (var 2)) (acons (pk (bin addD (pvar 2) (pk (cst (.int 1))))) (acons (pk (cst (.int 0))) (acons (pk (cst (.int 1))) (acons (pk (cst (.int 1048575))) anil))))))))) (tgN 3) L1_law)
def T6_law : SM := (asgS 4 (smE joinD (pk (cst (.str []))) (acons (pk X1_law) anil)))
def T7_law : SM := (ifS (tor (tnot (tru (pk (callE M__law_is_number (cval (pk (callE M_number_of_bits (cvw 4 cnil))) (cval (pk (callE M__law_worth (cvw 4 cnil))) cnil)))))) (tnot (tru (pk (callE M__law_is_text (cval (pk (callE M_wide_text (cval (pk (callE M__law_worth (cvw 4 cnil))) (cval (pk (blt lenD (acons (pvar 4) anil))) cnil)))) (cvw 4 cnil)))))))
  (retS (cst (.bl false)))
  skip)
def T8_law : SM := (ifS (tnot (tru (pk (callE M__law_is_number (cval (pk (callE M_number_of (cval (pk (bin addD (pk (blt lenD (acons (pvar 4) anil))) (pk (cst (.int 1))))) (cvw 4 cnil)))) (cval (pk (callE M__law_worth (cval (pk (bin addD (pk (cst (.str [49]))) (pvar 4))) cnil))) cnil))))))
  (retS (cst (.bl false)))
  skip)
def T9_law : SM := (asgS 5 (callE M__law_numbers (cvw 0 (cval (pk (cst (.int 1))) (cval (pk (cst (.int 60))) cnil)))))
def T10_law : SM := (asgS 6 (lstE anil))
def T11_law : SM := (forS (rng1 (acons (pk (bin modD (pk (bin ixD (pvar 1) (pk (cst (.int 46))))) (pk (cst (.int 31))))) anil)) (tgN 7) L2_law)
def T12_law : SM := (asgS 8 (blt listD (acons (pvar 6) anil)))
def T13_law : SM := (ifS (tor (tnot (tru (pk (callE M__law_counted (cvw 6 cnil))))) (tor (asB (bin neD (pvar 6) (pvar 8))) (tnot (tru (pk (callE M__law_counted (cval (pk (bin addD (pk (lstE (acons (pk (cst (.int 0))) (acons (pk (cst (.int 1))) (acons (pk (cst (.int 1048575))) (acons (pk (cst (.int 524288))) (acons (pk (cst (.int 524287))) anil))))))) (pvar 6))) cnil)))))))
  (retS (cst (.bl false)))
  skip)
def T14_law : SM := (appS 6 (pk (cst (.int 7))))
def T15_law : SM := (retS (vand (callE M__law_counted (cvw 6 cnil)) (callE M__law_counted (cval (pk (lstE anil)) cnil))))
def S_law : SM := (seqS T1_law
  (seqS T2_law
  (seqS T3_law
  (seqS T4_law
  (seqS T5_law
  (seqS T6_law
  (seqS T7_law
  (seqS T8_law
  (seqS T9_law
  (seqS T10_law
  (seqS T11_law
  (seqS T12_law
  (seqS T13_law
  (seqS T14_law
  T15_law))))))))))))))
def M_law : FM := runF 9 1 S_law
/-! ### what is known of the module -/
structure Fx (K : Fr) (mg : Str → Option Value) where
  a__law_numbers : Addr
  d__law_numbers : FuncData
  F__law_numbers : FunD K "_law_numbers" "_law_numbers" (defArgs s__law_numbers) (defBody s__law_numbers) (defScope s__law_numbers) [] [] a__law_numbers d__law_numbers
  g__law_numbers : mg "_law_numbers" = some (.ref a__law_numbers)
  a__law_text : Addr
  d__law_text : FuncData
  F__law_text : FunD K "_law_text" "_law_text" (defArgs s__law_text) (defBody s__law_text) (defScope s__law_text) [] [] a__law_text d__law_text
  g__law_text : mg "_law_text" = some (.ref a__law_text)
  a__law_is_text : Addr
  d__law_is_text : FuncData
  F__law_is_text : FunD K "_law_is_text" "_law_is_text" (defArgs s__law_is_text) (defBody s__law_is_text) (defScope s__law_is_text) [] [] a__law_is_text d__law_is_text
  g__law_is_text : mg "_law_is_text" = some (.ref a__law_is_text)
  a_bit_text : Addr
  d_bit_text : FuncData
  F_bit_text : FunD K "bit_text" "bit_text" (defArgs s_bit_text) (defBody s_bit_text) (defScope s_bit_text) [] [] a_bit_text d_bit_text
  g_bit_text : mg "bit_text" = some (.ref a_bit_text)
  a_rest_bits : Addr
  d_rest_bits : FuncData
  F_rest_bits : FunD K "rest_bits" "rest_bits" (defArgs s_rest_bits) (defBody s_rest_bits) (defScope s_rest_bits) [] [] a_rest_bits d_rest_bits
  g_rest_bits : mg "rest_bits" = some (.ref a_rest_bits)
  a_wide_text : Addr
  d_wide_text : FuncData
  F_wide_text : FunD K "wide_text" "wide_text" (defArgs s_wide_text) (defBody s_wide_text) (defScope s_wide_text) [] [] a_wide_text d_wide_text
  g_wide_text : mg "wide_text" = some (.ref a_wide_text)
  a__law_whole : Addr
  d__law_whole : FuncData
  F__law_whole : FunD K "_law_whole" "_law_whole" (defArgs s__law_whole) (defBody s__law_whole) (defScope s__law_whole) [] [] a__law_whole d__law_whole
  g__law_whole : mg "_law_whole" = some (.ref a__law_whole)
  a__law_is_number : Addr
  d__law_is_number : FuncData
  F__law_is_number : FunD K "_law_is_number" "_law_is_number" (defArgs s__law_is_number) (defBody s__law_is_number) (defScope s__law_is_number) [] [] a__law_is_number d__law_is_number
  g__law_is_number : mg "_law_is_number" = some (.ref a__law_is_number)
  a_bit_count : Addr
  d_bit_count : FuncData
  F_bit_count : FunD K "bit_count" "bit_count" (defArgs s_bit_count) (defBody s_bit_count) (defScope s_bit_count) [] [] a_bit_count d_bit_count
  g_bit_count : mg "bit_count" = some (.ref a_bit_count)
  a_number_of_bits : Addr
  d_number_of_bits : FuncData
  F_number_of_bits : FunD K "number_of_bits" "number_of_bits" (defArgs s_number_of_bits) (defBody s_number_of_bits) (defScope s_number_of_bits) [] [] a_number_of_bits d_number_of_bits
  g_number_of_bits : mg "number_of_bits" = some (.ref a_number_of_bits)
  a_class_of : Addr
  d_class_of : FuncData
  F_class_of : FunD K "class_of" "class_of" (defArgs s_class_of) (defBody s_class_of) (defScope s_class_of) [] [] a_class_of d_class_of
  g_class_of : mg "class_of" = some (.ref a_class_of)
  a_number_of : Addr
  d_number_of : FuncData
  F_number_of : FunD K "number_of" "number_of" (defArgs s_number_of) (defBody s_number_of) (defScope s_number_of) [] [] a_number_of d_number_of
  g_number_of : mg "number_of" = some (.ref a_number_of)
  a__law_one : Addr
  d__law_one : FuncData
  F__law_one : FunD K "_law_one" "_law_one" (defArgs s__law_one) (defBody s__law_one) (defScope s__law_one) [] [] a__law_one d__law_one
  g__law_one : mg "_law_one" = some (.ref a__law_one)
  a__law_power : Addr
  d__law_power : FuncData
  F__law_power : FunD K "_law_power" "_law_power" (defArgs s__law_power) (defBody s__law_power) (defScope s__law_power) [] [] a__law_power d__law_power
  g__law_power : mg "_law_power" = some (.ref a__law_power)
  a__law_drawn : Addr
  d__law_drawn : FuncData
  F__law_drawn : FunD K "_law_drawn" "_law_drawn" (defArgs s__law_drawn) (defBody s__law_drawn) (defScope s__law_drawn) [] [] a__law_drawn d__law_drawn
  g__law_drawn : mg "_law_drawn" = some (.ref a__law_drawn)
  a__law_worth : Addr
  d__law_worth : FuncData
  F__law_worth : FunD K "_law_worth" "_law_worth" (defArgs s__law_worth) (defBody s__law_worth) (defScope s__law_worth) [] [] a__law_worth d__law_worth
  g__law_worth : mg "_law_worth" = some (.ref a__law_worth)
  a_class_counts : Addr
  d_class_counts : FuncData
  F_class_counts : FunD K "class_counts" "class_counts" (defArgs s_class_counts) (defBody s_class_counts) (defScope s_class_counts) [] [] a_class_counts d_class_counts
  g_class_counts : mg "class_counts" = some (.ref a_class_counts)
  a__law_counted : Addr
  d__law_counted : FuncData
  F__law_counted : FunD K "_law_counted" "_law_counted" (defArgs s__law_counted) (defBody s__law_counted) (defScope s__law_counted) [] [] a__law_counted d__law_counted
  g__law_counted : mg "_law_counted" = some (.ref a__law_counted)
  a_law : Addr
  d_law : FuncData
  F_law : FunD K "law" "law" (defArgs s_law) (defBody s_law) (defScope s_law) [] [] a_law d_law
  g_law : mg "law" = some (.ref a_law)
  m_bool : mg "bool" = none
  m_int : mg "int" = none
  m_isinstance : mg "isinstance" = none
  m_len : mg "len" = none
  m_list : mg "list" = none
  m_range : mg "range" = none
  m_str : mg "str" = none
  c_MOST_CLASS : ∃ t, mg "MOST_CLASS" = some (.int 20 t)
section
variable {P : Program} {w : World} {K : Fr} {mg : Str → Option Value} {base : Heap}
theorem b__law_numbers (x : Fx K mg) : Binds K x.d__law_numbers ["script", "at", "count"] [] := x.F__law_numbers.bindsN fun _ _ _ _ _ _ us hl => match us, hl with | [_, _, _], _ => rfl
theorem ok__law_numbers (x : Fx K mg) : FnOk P w K mg base (L2.CX P w) 1 x.a__law_numbers x.d__law_numbers ["script", "at", "count"] (spF K mg M__law_numbers 3) := by
  refine ok_fun (He5.fun_of x.F__law_numbers) sc__law_numbers (by decide) fun cdv A outer s0 H E hr B F0 => ?_
  have po := passes_of (X := cxOf (L2.CX P w) P w K mg base N__law_numbers "_law_numbers" (defScope s__law_numbers) x.a__law_numbers cdv A outer s0 H E) rfl
  have tk := takes_of (X := cxOf (L2.CX P w) P w K mg base N__law_numbers "_law_numbers" (defScope s__law_numbers) x.a__law_numbers cdv A outer s0 H E) rfl rfl rfl rfl
  exact (ss_cons (s_set (i := 3) sc__law_numbers.nd rfl (by first | exact Or.inl rfl | exact Or.inr rfl) (e_bin op_mulA ok_mul (p_of e_int) (p_of (e_bin op_addA ok_add (p_var (pv 1)) (p_of e_int)))))
  (ss_cons (s_if (t_cmp op_ltA ok_cmp (p_var (pv 1)) (p_of (e_blt op_lenA ok_len (by rfl) x.m_len (by decide +kernel) (q_cons (p_var (pv 0)) q_nil))) (nomark _))
  (ss_one (s_set (i := 3) sc__law_numbers.nd rfl (by first | exact Or.inl rfl | exact Or.inr rfl) (e_typ op_int1 ok_int (by rfl) x.m_int (by decide +kernel) (q_cons (p_of (e_ix rfl (p_var (pv 0)) (p_var (pv 1)) (fun _ _ => rfl))) q_nil))))
  ss_nil)
  (ss_cons (s_if (t_cmp op_ltA ok_cmp (p_var (pv 3)) (p_of e_int) (nomark _))
  (ss_one (s_set (i := 3) sc__law_numbers.nd rfl (by first | exact Or.inl rfl | exact Or.inr rfl) (e_bin op_sub ok_sub (p_of e_int) (p_of (e_bin op_mulA ok_mul (p_of e_int) (p_var (pv 3)))))))
  ss_nil)
  (ss_cons (s_set (i := 4) sc__law_numbers.nd rfl (by first | exact Or.inl rfl | exact Or.inr rfl) (e_lst a_nil))
  (ss_cons (s_for (S1 := L1__law_numbers) po rfl (k_rng1 (by rfl) x.m_range (q_cons (p_var (pv 2)) q_nil)) (pg_name (i := 5) sc__law_numbers.nd rfl (by first | exact Or.inl rfl | exact Or.inr rfl)) g_name fun F0 =>
  (ss_one (s_if (t_cmp op_geA ok_cmp (p_var (pv 3)) (p_of (e_bin op_pow ok_pow (p_of e_int) (p_of e_int))) (nomark _))
  (ss_cons (s_app rfl (pv 4) (f_of (e_bin op_mod ok_mod (p_var (pv 3)) (p_of e_int))))
  (ss_one (s_set (i := 3) sc__law_numbers.nd rfl (by first | exact Or.inl rfl | exact Or.inr rfl) (e_bin op_fdivW ok_fdiv (p_var (pv 3)) (p_of e_int)))))
  (ss_cons (s_set (i := 6) sc__law_numbers.nd rfl (by first | exact Or.inl rfl | exact Or.inr rfl) (e_bin op_mod ok_mod (p_of (e_bin op_addA ok_add (p_of (e_bin op_addA ok_add (p_of (e_bin op_mulA ok_mul (p_var (pv 3)) (p_of e_int))) (p_of (e_bin op_mulA ok_mul (p_of (e_bin op_addA ok_add (p_var (pv 5)) (p_of e_int))) (p_of e_int))))) (p_of (e_bin op_mulA ok_mul (p_var (pv 1)) (p_of e_int))))) (p_of e_int)))
  (ss_cons (s_set (i := 6) sc__law_numbers.nd rfl (by first | exact Or.inl rfl | exact Or.inr rfl) (e_bin op_mod ok_mod (p_of (e_bin op_addA ok_add (p_of (e_bin op_mulA ok_mul (p_var (pv 6)) (p_var (pv 6)))) (p_of (e_bin op_mulA ok_mul (p_of e_int) (p_of (e_bin op_addA ok_add (p_var (pv 5)) (p_of e_int))))))) (p_of e_int)))
  (ss_one (s_app rfl (pv 4) (f_of (e_bin op_mod ok_mod (p_of (e_bin op_fdivW ok_fdiv (p_var (pv 6)) (p_of e_int))) (p_of e_int))))))))))
  (ss_one (s_retV (pv 4))))))))
theorem b__law_text (x : Fx K mg) : Binds K x.d__law_text ["n"] [] := x.F__law_text.bindsN fun _ _ _ _ _ _ us hl => match us, hl with | [_], _ => rfl
theorem ok__law_text (x : Fx K mg) : FnOk P w K mg base (L2.CX P w) 1 x.a__law_text x.d__law_text ["n"] (spF K mg M__law_text 1) := by
  refine ok_fun (He5.fun_of x.F__law_text) sc__law_text (by decide) fun cdv A outer s0 H E hr B F0 => ?_
  have po := passes_of (X := cxOf (L2.CX P w) P w K mg base N__law_text "_law_text" (defScope s__law_text) x.a__law_text cdv A outer s0 H E) rfl
  have tk := takes_of (X := cxOf (L2.CX P w) P w K mg base N__law_text "_law_text" (defScope s__law_text) x.a__law_text cdv A outer s0 H E) rfl rfl rfl rfl
  exact (ss_cons (s_set (i := 1) sc__law_text.nd rfl (by first | exact Or.inl rfl | exact Or.inr rfl) (e_str (by kernel_rfl)))
  (ss_cons (s_for (S1 := L1__law_text) po rfl (k_rng1 (by rfl) x.m_range (q_cons (p_of e_int) q_nil)) (pg_name (i := 2) sc__law_text.nd rfl (by first | exact Or.inl rfl | exact Or.inr rfl)) g_name fun F0 =>
  (ss_cons (s_if (t_cmp (op_eqD hr.units) ok_eq (p_var (pv 0)) (p_of e_int) (nomark _))
  (ss_one (s_retV (pv 1)))
  ss_nil)
  (ss_cons (s_set (i := 1) sc__law_text.nd rfl (by first | exact Or.inl rfl | exact Or.inr rfl) (e_bin op_addA ok_add (p_of (e_ix rfl (p_of (e_str (by kernel_rfl))) (p_of (e_bin op_mod ok_mod (p_var (pv 0)) (p_of e_int))) (fun _ _ => rfl))) (p_var (pv 1))))
  (ss_one (s_set (i := 0) sc__law_text.nd rfl (by first | exact Or.inl rfl | exact Or.inr rfl) (e_bin op_fdivW ok_fdiv (p_var (pv 0)) (p_of e_int)))))))
  (ss_one (s_retV (pv 1)))))
theorem b__law_is_text (x : Fx K mg) : Binds K x.d__law_is_text ["told", "due"] [] := x.F__law_is_text.bindsN fun _ _ _ _ _ _ us hl => match us, hl with | [_, _], _ => rfl
theorem ok__law_is_text (x : Fx K mg) : FnOk P w K mg base (L2.CX P w) 1 x.a__law_is_text x.d__law_is_text ["told", "due"] (spF K mg M__law_is_text 2) := by
  refine ok_fun (He5.fun_of x.F__law_is_text) sc__law_is_text (by decide) fun cdv A outer s0 H E hr B F0 => ?_
  have po := passes_of (X := cxOf (L2.CX P w) P w K mg base N__law_is_text "_law_is_text" (defScope s__law_is_text) x.a__law_is_text cdv A outer s0 H E) rfl
  have tk := takes_of (X := cxOf (L2.CX P w) P w K mg base N__law_is_text "_law_is_text" (defScope s__law_is_text) x.a__law_is_text cdv A outer s0 H E) rfl rfl rfl rfl
  exact (ss_one (s_ret (v_and (e_isi (e_blt call_isi (ok_isi (by decide)) (by rfl) x.m_isinstance (by decide +kernel) (q_cons (p_var (pv 0)) (q_cons (p_ty .str (by rfl) x.m_str (by decide +kernel)) q_nil)))) (v_one (e_cmp (op_eqD hr.units) ok_eq (p_var (pv 0)) (p_var (pv 1)) (nomark _))))))
theorem b_bit_text (x : Fx K mg) : Binds K x.d_bit_text ["n"] [] := x.F_bit_text.bindsN fun _ _ _ _ _ _ us hl => match us, hl with | [_], _ => rfl
theorem ok_bit_text (x : Fx K mg) : FnOk P w K mg base (L2.CX P w) 1 x.a_bit_text x.d_bit_text ["n"] (spF K mg M_bit_text 1) := by
  refine ok_fun (He5.fun_of x.F_bit_text) sc_bit_text (by decide) fun cdv A outer s0 H E hr B F0 => ?_
  have po := passes_of (X := cxOf (L2.CX P w) P w K mg base N_bit_text "bit_text" (defScope s_bit_text) x.a_bit_text cdv A outer s0 H E) rfl
  have tk := takes_of (X := cxOf (L2.CX P w) P w K mg base N_bit_text "bit_text" (defScope s_bit_text) x.a_bit_text cdv A outer s0 H E) rfl rfl rfl rfl
  exact (ss_cons (s_set (i := 1) sc_bit_text.nd rfl (by first | exact Or.inl rfl | exact Or.inr rfl) (e_str (by kernel_rfl)))
  (ss_cons (s_while (G := W1_bit_text) (S1 := L1_bit_text) fuel po (t_cmp op_gtA ok_cmp (p_var (pv 0)) (p_of e_int) (nomark _))
  (ss_cons (s_set (i := 1) sc_bit_text.nd rfl (by first | exact Or.inl rfl | exact Or.inr rfl) (e_bin op_addA ok_add (p_of (e_typ op_str1 ok_str (by rfl) x.m_str (by decide +kernel) (q_cons (p_of (e_bin op_mod ok_mod (p_var (pv 0)) (p_of e_int))) q_nil))) (p_var (pv 1))))
  (ss_one (s_aug (i := 0) sc_bit_text.nd rfl (by first | exact Or.inl rfl | exact Or.inr rfl) (p_of e_int) iop_fdivW ok_fdiv))))
  (ss_one (s_retV (pv 1)))))
theorem b_rest_bits (x : Fx K mg) : Binds K x.d_rest_bits ["n"] [] := x.F_rest_bits.bindsN fun _ _ _ _ _ _ us hl => match us, hl with | [_], _ => rfl
theorem ok_rest_bits (x : Fx K mg) : FnOk P w K mg base (L2.CX P w) 2 x.a_rest_bits x.d_rest_bits ["n"] (spF K mg M_rest_bits 1) := by
  refine ok_fun (He5.fun_of x.F_rest_bits) sc_rest_bits (by decide) fun cdv A outer s0 H E hr B F0 => ?_
  have po := passes_of (X := cxOf (L2.CX P w) P w K mg base N_rest_bits "rest_bits" (defScope s_rest_bits) x.a_rest_bits cdv A outer s0 H E) rfl
  have tk := takes_of (X := cxOf (L2.CX P w) P w K mg base N_rest_bits "rest_bits" (defScope s_rest_bits) x.a_rest_bits cdv A outer s0 H E) rfl rfl rfl rfl
  exact (ss_one (s_ret (e_sli rfl (p_of (e_call (ok_bit_text x) (hr.mono (by decide)) rfl rfl tk (fun ds h => runF_len ds h) (by rfl) x.g_bit_text x.F_bit_text.kp (b_bit_text x) (c_vw (pv 0) c_nil))) (o_in (p_of e_int)) o_no)))
theorem b_wide_text (x : Fx K mg) : Binds K x.d_wide_text ["n", "size"] [] := x.F_wide_text.bindsN fun _ _ _ _ _ _ us hl => match us, hl with | [_, _], _ => rfl
theorem ok_wide_text (x : Fx K mg) : FnOk P w K mg base (L2.CX P w) 2 x.a_wide_text x.d_wide_text ["n", "size"] (spF K mg M_wide_text 2) := by
  refine ok_fun (He5.fun_of x.F_wide_text) sc_wide_text (by decide) fun cdv A outer s0 H E hr B F0 => ?_
  have po := passes_of (X := cxOf (L2.CX P w) P w K mg base N_wide_text "wide_text" (defScope s_wide_text) x.a_wide_text cdv A outer s0 H E) rfl
  have tk := takes_of (X := cxOf (L2.CX P w) P w K mg base N_wide_text "wide_text" (defScope s_wide_text) x.a_wide_text cdv A outer s0 H E) rfl rfl rfl rfl
  exact (ss_one (s_ret (e_sm PySem.F.slot_str_rjust PySem.F.type_str_rjust op_rjust ok_rjust (p_of (e_call (ok_bit_text x) (hr.mono (by decide)) rfl rfl tk (fun ds h => runF_len ds h) (by rfl) x.g_bit_text x.F_bit_text.kp (b_bit_text x) (c_vw (pv 0) c_nil))) (q_cons (p_var (pv 1)) (q_cons (p_of (e_str (by kernel_rfl))) q_nil)))))
theorem b__law_whole (x : Fx K mg) : Binds K x.d__law_whole ["value"] [] := x.F__law_whole.bindsN fun _ _ _ _ _ _ us hl => match us, hl with | [_], _ => rfl
theorem ok__law_whole (x : Fx K mg) : FnOk P w K mg base (L2.CX P w) 1 x.a__law_whole x.d__law_whole ["value"] (spF K mg M__law_whole 1) := by
  refine ok_fun (He5.fun_of x.F__law_whole) sc__law_whole (by decide) fun cdv A outer s0 H E hr B F0 => ?_
  have po := passes_of (X := cxOf (L2.CX P w) P w K mg base N__law_whole "_law_whole" (defScope s__law_whole) x.a__law_whole cdv A outer s0 H E) rfl
  have tk := takes_of (X := cxOf (L2.CX P w) P w K mg base N__law_whole "_law_whole" (defScope s__law_whole) x.a__law_whole cdv A outer s0 H E) rfl rfl rfl rfl
  exact (ss_one (s_ret (v_and (e_isi (e_blt call_isi (ok_isi (by decide)) (by rfl) x.m_isinstance (by decide +kernel) (q_cons (p_var (pv 0)) (q_cons (p_ty .int (by rfl) x.m_int (by decide +kernel)) q_nil)))) (v_one (v_not (e_isi (e_blt call_isi (ok_isi (by decide)) (by rfl) x.m_isinstance (by decide +kernel) (q_cons (p_var (pv 0)) (q_cons (p_ty .bl (by rfl) x.m_bool (by decide +kernel)) q_nil)))))))))
theorem b__law_is_number (x : Fx K mg) : Binds K x.d__law_is_number ["told", "due"] [] := x.F__law_is_number.bindsN fun _ _ _ _ _ _ us hl => match us, hl with | [_, _], _ => rfl
theorem ok__law_is_number (x : Fx K mg) : FnOk P w K mg base (L2.CX P w) 2 x.a__law_is_number x.d__law_is_number ["told", "due"] (spF K mg M__law_is_number 2) := by
  refine ok_fun (He5.fun_of x.F__law_is_number) sc__law_is_number (by decide) fun cdv A outer s0 H E hr B F0 => ?_
  have po := passes_of (X := cxOf (L2.CX P w) P w K mg base N__law_is_number "_law_is_number" (defScope s__law_is_number) x.a__law_is_number cdv A outer s0 H E) rfl
  have tk := takes_of (X := cxOf (L2.CX P w) P w K mg base N__law_is_number "_law_is_number" (defScope s__law_is_number) x.a__law_is_number cdv A outer s0 H E) rfl rfl rfl rfl
  exact (ss_one (s_ret (v_and (e_call (ok__law_whole x) (hr.mono (by decide)) rfl rfl tk (fun ds h => runF_len ds h) (by rfl) x.g__law_whole x.F__law_whole.kp (b__law_whole x) (c_vw (pv 0) c_nil)) (v_one (e_cmp (op_eqD hr.units) ok_eq (p_var (pv 0)) (p_var (pv 1)) (nomark _))))))
theorem b_bit_count (x : Fx K mg) : Binds K x.d_bit_count ["n"] [] := x.F_bit_count.bindsN fun _ _ _ _ _ _ us hl => match us, hl with | [_], _ => rfl
theorem ok_bit_count (x : Fx K mg) : FnOk P w K mg base (L2.CX P w) 1 x.a_bit_count x.d_bit_count ["n"] (spF K mg M_bit_count 1) := by
  refine ok_fun (He5.fun_of x.F_bit_count) sc_bit_count (by decide) fun cdv A outer s0 H E hr B F0 => ?_
  have po := passes_of (X := cxOf (L2.CX P w) P w K mg base N_bit_count "bit_count" (defScope s_bit_count) x.a_bit_count cdv A outer s0 H E) rfl
  have tk := takes_of (X := cxOf (L2.CX P w) P w K mg base N_bit_count "bit_count" (defScope s_bit_count) x.a_bit_count cdv A outer s0 H E) rfl rfl rfl rfl
  exact (ss_cons (s_set (i := 1) sc_bit_count.nd rfl (by first | exact Or.inl rfl | exact Or.inr rfl) e_int)
  (ss_cons (s_while (G := W1_bit_count) (S1 := L1_bit_count) fuel po (t_cmp op_gtA ok_cmp (p_var (pv 0)) (p_of e_int) (nomark _))
  (ss_cons (s_aug (i := 1) sc_bit_count.nd rfl (by first | exact Or.inl rfl | exact Or.inr rfl) (p_of e_int) iop_addA ok_addI)
  (ss_one (s_aug (i := 0) sc_bit_count.nd rfl (by first | exact Or.inl rfl | exact Or.inr rfl) (p_of e_int) iop_fdivW ok_fdiv))))
  (ss_one (s_retV (pv 1)))))
theorem b_number_of_bits (x : Fx K mg) : Binds K x.d_number_of_bits ["text"] [] := x.F_number_of_bits.bindsN fun _ _ _ _ _ _ us hl => match us, hl with | [_], _ => rfl
theorem ok_number_of_bits (x : Fx K mg) : FnOk P w K mg base (L2.CX P w) 1 x.a_number_of_bits x.d_number_of_bits ["text"] (spF K mg M_number_of_bits 1) := by
  refine ok_fun (He5.fun_of x.F_number_of_bits) sc_number_of_bits (by decide) fun cdv A outer s0 H E hr B F0 => ?_
  have po := passes_of (X := cxOf (L2.CX P w) P w K mg base N_number_of_bits "number_of_bits" (defScope s_number_of_bits) x.a_number_of_bits cdv A outer s0 H E) rfl
  have tk := takes_of (X := cxOf (L2.CX P w) P w K mg base N_number_of_bits "number_of_bits" (defScope s_number_of_bits) x.a_number_of_bits cdv A outer s0 H E) rfl rfl rfl rfl
  exact (ss_cons (s_set (i := 1) sc_number_of_bits.nd rfl (by first | exact Or.inl rfl | exact Or.inr rfl) e_int)
  (ss_cons (s_for (S1 := L1_number_of_bits) po rfl (k_src rfl (f_of (e_var (pv 0)))) (pg_name (i := 2) sc_number_of_bits.nd rfl (by first | exact Or.inl rfl | exact Or.inr rfl)) g_name fun F0 =>
  (ss_one (s_set (i := 1) sc_number_of_bits.nd rfl (by first | exact Or.inl rfl | exact Or.inr rfl) (e_bin op_addA ok_add (p_of (e_bin op_mulA ok_mul (p_of e_int) (p_var (pv 1)))) (p_of (e_typ op_int1 ok_int (by rfl) x.m_int (by decide +kernel) (q_cons (p_of (e_cmp (op_eqD hr.units) ok_eq (p_var (pv 2)) (p_of (e_str (by kernel_rfl))) (nomark _))) q_nil)))))))
  (ss_one (s_retV (pv 1)))))
theorem b_class_of (x : Fx K mg) : Binds K x.d_class_of ["n"] [] := x.F_class_of.bindsN fun _ _ _ _ _ _ us hl => match us, hl with | [_], _ => rfl
theorem ok_class_of (x : Fx K mg) : FnOk P w K mg base (L2.CX P w) 2 x.a_class_of x.d_class_of ["n"] (spF K mg M_class_of 1) := by
  refine ok_fun (He5.fun_of x.F_class_of) sc_class_of (by decide) fun cdv A outer s0 H E hr B F0 => ?_
  have po := passes_of (X := cxOf (L2.CX P w) P w K mg base N_class_of "class_of" (defScope s_class_of) x.a_class_of cdv A outer s0 H E) rfl
  have tk := takes_of (X := cxOf (L2.CX P w) P w K mg base N_class_of "class_of" (defScope s_class_of) x.a_class_of cdv A outer s0 H E) rfl rfl rfl rfl
  exact (ss_one (s_ret (e_call (ok_bit_count x) (hr.mono (by decide)) rfl rfl tk (fun ds h => runF_len ds h) (by rfl) x.g_bit_count x.F_bit_count.kp (b_bit_count x) (c_vw (pv 0) c_nil))))
theorem b_number_of (x : Fx K mg) : Binds K x.d_number_of ["size", "rest"] [] := x.F_number_of.bindsN fun _ _ _ _ _ _ us hl => match us, hl with | [_, _], _ => rfl
theorem ok_number_of (x : Fx K mg) : FnOk P w K mg base (L2.CX P w) 2 x.a_number_of x.d_number_of ["size", "rest"] (spF K mg M_number_of 2) := by
  refine ok_fun (He5.fun_of x.F_number_of) sc_number_of (by decide) fun cdv A outer s0 H E hr B F0 => ?_
  have po := passes_of (X := cxOf (L2.CX P w) P w K mg base N_number_of "number_of" (defScope s_number_of) x.a_number_of cdv A outer s0 H E) rfl
  have tk := takes_of (X := cxOf (L2.CX P w) P w K mg base N_number_of "number_of" (defScope s_number_of) x.a_number_of cdv A outer s0 H E) rfl rfl rfl rfl
  exact (ss_one (s_ret (e_iff (t_cmp op_gtA ok_cmp (p_var (pv 0)) (p_of e_int) (nomark _)) (e_call (ok_number_of_bits x) (hr.mono (by decide)) rfl rfl tk (fun ds h => runF_len ds h) (by rfl) x.g_number_of_bits x.F_number_of_bits.kp (b_number_of_bits x) (c_val (f_of (e_bin op_addA ok_add (p_of (e_str (by kernel_rfl))) (p_var (pv 1)))) c_nil)) e_int)))
theorem b__law_one (x : Fx K mg) : Binds K x.d__law_one ["n", "more"] [] := x.F__law_one.bindsN fun _ _ _ _ _ _ us hl => match us, hl with | [_, _], _ => rfl
theorem ok__law_one (x : Fx K mg) : FnOk P w K mg base (L2.CX P w) 3 x.a__law_one x.d__law_one ["n", "more"] (spF K mg M__law_one 2) := by
  refine ok_fun (He5.fun_of x.F__law_one) sc__law_one (by decide) fun cdv A outer s0 H E hr B F0 => ?_
  have po := passes_of (X := cxOf (L2.CX P w) P w K mg base N__law_one "_law_one" (defScope s__law_one) x.a__law_one cdv A outer s0 H E) rfl
  have tk := takes_of (X := cxOf (L2.CX P w) P w K mg base N__law_one "_law_one" (defScope s__law_one) x.a__law_one cdv A outer s0 H E) rfl rfl rfl rfl
  exact (ss_cons (s_set (i := 2) sc__law_one.nd rfl (by first | exact Or.inl rfl | exact Or.inr rfl) (e_call (ok__law_text x) (hr.mono (by decide)) rfl rfl tk (fun ds h => runF_len ds h) (by rfl) x.g__law_text x.F__law_text.kp (b__law_text x) (c_vw (pv 0) c_nil)))
  (ss_cons (s_set (i := 3) sc__law_one.nd rfl (by first | exact Or.inl rfl | exact Or.inr rfl) (e_blt op_lenA ok_len (by rfl) x.m_len (by decide +kernel) (q_cons (p_var (pv 2)) q_nil)))
  (ss_cons (s_if (w_or (t_not (t_tru rfl (p_of (e_call (ok__law_is_text x) (hr.mono (by decide)) rfl rfl tk (fun ds h => runF_len ds h) (by rfl) x.g__law_is_text x.F__law_is_text.kp (b__law_is_text x) (c_val (f_of (e_call (ok_bit_text x) (hr.mono (by decide)) rfl rfl tk (fun ds h => runF_len ds h) (by rfl) x.g_bit_text x.F_bit_text.kp (b_bit_text x) (c_vw (pv 0) c_nil))) (c_vw (pv 2) c_nil)))) (fun _ => by rfl))) (w_or1 (t_not (t_tru rfl (p_of (e_call (ok__law_is_text x) (hr.mono (by decide)) rfl rfl tk (fun ds h => runF_len ds h) (by rfl) x.g__law_is_text x.F__law_is_text.kp (b__law_is_text x) (c_val (f_of (e_call (ok_rest_bits x) (hr.mono (by decide)) rfl rfl tk (fun ds h => runF_len ds h) (by rfl) x.g_rest_bits x.F_rest_bits.kp (b_rest_bits x) (c_vw (pv 0) c_nil))) (c_val (f_of (e_sli rfl (p_var (pv 2)) (o_in (p_of e_int)) o_no)) c_nil)))) (fun _ => by rfl))))).pt
  (ss_one (s_ret e_bl))
  ss_nil)
  (ss_cons (s_if (w_or (t_not (t_tru rfl (p_of (e_call (ok__law_is_text x) (hr.mono (by decide)) rfl rfl tk (fun ds h => runF_len ds h) (by rfl) x.g__law_is_text x.F__law_is_text.kp (b__law_is_text x) (c_val (f_of (e_call (ok_wide_text x) (hr.mono (by decide)) rfl rfl tk (fun ds h => runF_len ds h) (by rfl) x.g_wide_text x.F_wide_text.kp (b_wide_text x) (c_vw (pv 0) (c_vw (pv 3) c_nil)))) (c_vw (pv 2) c_nil)))) (fun _ => by rfl))) (w_or1 (t_not (t_tru rfl (p_of (e_call (ok__law_is_text x) (hr.mono (by decide)) rfl rfl tk (fun ds h => runF_len ds h) (by rfl) x.g__law_is_text x.F__law_is_text.kp (b__law_is_text x) (c_val (f_of (e_call (ok_wide_text x) (hr.mono (by decide)) rfl rfl tk (fun ds h => runF_len ds h) (by rfl) x.g_wide_text x.F_wide_text.kp (b_wide_text x) (c_vw (pv 0) (c_val (f_of (e_bin op_addA ok_add (p_var (pv 3)) (p_var (pv 1)))) c_nil)))) (c_val (f_of (e_bin op_addA ok_add (p_of (e_bin op_mulA ok_mul (p_of (e_str (by kernel_rfl))) (p_var (pv 1)))) (p_var (pv 2)))) c_nil)))) (fun _ => by rfl))))).pt
  (ss_one (s_ret e_bl))
  ss_nil)
  (ss_cons (s_if (w_or (t_not (t_tru rfl (p_of (e_call (ok__law_is_number x) (hr.mono (by decide)) rfl rfl tk (fun ds h => runF_len ds h) (by rfl) x.g__law_is_number x.F__law_is_number.kp (b__law_is_number x) (c_val (f_of (e_call (ok_bit_count x) (hr.mono (by decide)) rfl rfl tk (fun ds h => runF_len ds h) (by rfl) x.g_bit_count x.F_bit_count.kp (b_bit_count x) (c_vw (pv 0) c_nil))) (c_vw (pv 3) c_nil)))) (fun _ => by rfl))) (w_or1 (t_not (t_tru rfl (p_of (e_call (ok__law_is_number x) (hr.mono (by decide)) rfl rfl tk (fun ds h => runF_len ds h) (by rfl) x.g__law_is_number x.F__law_is_number.kp (b__law_is_number x) (c_val (f_of (e_call (ok_number_of_bits x) (hr.mono (by decide)) rfl rfl tk (fun ds h => runF_len ds h) (by rfl) x.g_number_of_bits x.F_number_of_bits.kp (b_number_of_bits x) (c_val (f_of (e_bin op_addA ok_add (p_of (e_bin op_mulA ok_mul (p_of (e_str (by kernel_rfl))) (p_var (pv 1)))) (p_var (pv 2)))) c_nil))) (c_vw (pv 0) c_nil)))) (fun _ => by rfl))))).pt
  (ss_one (s_ret e_bl))
  ss_nil)
  (ss_cons (s_if (t_cmp op_gtA ok_cmp (p_var (pv 3)) (p_of e_int) (nomark _))
  (ss_one (s_ret e_bl))
  ss_nil)
  (ss_one (s_ret (v_and (e_call (ok__law_is_number x) (hr.mono (by decide)) rfl rfl tk (fun ds h => runF_len ds h) (by rfl) x.g__law_is_number x.F__law_is_number.kp (b__law_is_number x) (c_val (f_of (e_call (ok_class_of x) (hr.mono (by decide)) rfl rfl tk (fun ds h => runF_len ds h) (by rfl) x.g_class_of x.F_class_of.kp (b_class_of x) (c_vw (pv 0) c_nil))) (c_vw (pv 3) c_nil))) (v_one (e_call (ok__law_is_number x) (hr.mono (by decide)) rfl rfl tk (fun ds h => runF_len ds h) (by rfl) x.g__law_is_number x.F__law_is_number.kp (b__law_is_number x) (c_val (f_of (e_call (ok_number_of x) (hr.mono (by decide)) rfl rfl tk (fun ds h => runF_len ds h) (by rfl) x.g_number_of x.F_number_of.kp (b_number_of x) (c_vw (pv 3) (c_val (f_of (e_sli rfl (p_var (pv 2)) (o_in (p_of e_int)) o_no)) c_nil)))) (c_vw (pv 0) c_nil)))))))))))))
theorem b__law_power (x : Fx K mg) : Binds K x.d__law_power ["size"] [] := x.F__law_power.bindsN fun _ _ _ _ _ _ us hl => match us, hl with | [_], _ => rfl
theorem ok__law_power (x : Fx K mg) : FnOk P w K mg base (L2.CX P w) 1 x.a__law_power x.d__law_power ["size"] (spF K mg M__law_power 1) := by
  refine ok_fun (He5.fun_of x.F__law_power) sc__law_power (by decide) fun cdv A outer s0 H E hr B F0 => ?_
  have po := passes_of (X := cxOf (L2.CX P w) P w K mg base N__law_power "_law_power" (defScope s__law_power) x.a__law_power cdv A outer s0 H E) rfl
  have tk := takes_of (X := cxOf (L2.CX P w) P w K mg base N__law_power "_law_power" (defScope s__law_power) x.a__law_power cdv A outer s0 H E) rfl rfl rfl rfl
  exact (ss_cons (s_set (i := 1) sc__law_power.nd rfl (by first | exact Or.inl rfl | exact Or.inr rfl) e_int)
  (ss_cons (s_for (S1 := L1__law_power) po rfl (k_rng1 (by rfl) x.m_range (q_cons (p_var (pv 0)) q_nil)) (pg_name (i := 2) sc__law_power.nd rfl (by first | exact Or.inl rfl | exact Or.inr rfl)) g_name fun F0 =>
  (ss_one (s_set (i := 1) sc__law_power.nd rfl (by first | exact Or.inl rfl | exact Or.inr rfl) (e_bin op_mulA ok_mul (p_var (pv 1)) (p_of e_int)))))
  (ss_one (s_retV (pv 1)))))
theorem b__law_drawn (x : Fx K mg) : Binds K x.d__law_drawn ["numbers", "at", "size"] [] := x.F__law_drawn.bindsN fun _ _ _ _ _ _ us hl => match us, hl with | [_, _, _], _ => rfl
theorem ok__law_drawn (x : Fx K mg) : FnOk P w K mg base (L2.CX P w) 2 x.a__law_drawn x.d__law_drawn ["numbers", "at", "size"] (spF K mg M__law_drawn 3) := by
  refine ok_fun (He5.fun_of x.F__law_drawn) sc__law_drawn (by decide) fun cdv A outer s0 H E hr B F0 => ?_
  have po := passes_of (X := cxOf (L2.CX P w) P w K mg base N__law_drawn "_law_drawn" (defScope s__law_drawn) x.a__law_drawn cdv A outer s0 H E) rfl
  have tk := takes_of (X := cxOf (L2.CX P w) P w K mg base N__law_drawn "_law_drawn" (defScope s__law_drawn) x.a__law_drawn cdv A outer s0 H E) rfl rfl rfl rfl
  exact (ss_cons (s_set (i := 3) sc__law_drawn.nd rfl (by first | exact Or.inl rfl | exact Or.inr rfl) e_int)
  (ss_cons (s_for (S1 := L1__law_drawn) po rfl (k_rng1 (by rfl) x.m_range (q_cons (p_of e_int) q_nil)) (pg_name (i := 4) sc__law_drawn.nd rfl (by first | exact Or.inl rfl | exact Or.inr rfl)) g_name fun F0 =>
  (ss_one (s_set (i := 3) sc__law_drawn.nd rfl (by first | exact Or.inl rfl | exact Or.inr rfl) (e_bin op_addA ok_add (p_of (e_bin op_mulA ok_mul (p_var (pv 3)) (p_of e_int))) (p_of (e_ix rfl (p_var (pv 0)) (p_of (e_bin op_addA ok_add (p_var (pv 1)) (p_var (pv 4)))) (fun _ _ => rfl)))))))
  (ss_one (s_ret (e_bin op_mod ok_mod (p_of (e_typ op_int1 ok_int (by rfl) x.m_int (by decide +kernel) (q_cons (p_var (pv 3)) q_nil))) (p_of (e_call (ok__law_power x) (hr.mono (by decide)) rfl rfl tk (fun ds h => runF_len ds h) (by rfl) x.g__law_power x.F__law_power.kp (b__law_power x) (c_vw (pv 2) c_nil))))))))
theorem b__law_worth (x : Fx K mg) : Binds K x.d__law_worth ["text"] [] := x.F__law_worth.bindsN fun _ _ _ _ _ _ us hl => match us, hl with | [_], _ => rfl
theorem ok__law_worth (x : Fx K mg) : FnOk P w K mg base (L2.CX P w) 1 x.a__law_worth x.d__law_worth ["text"] (spF K mg M__law_worth 1) := by
  refine ok_fun (He5.fun_of x.F__law_worth) sc__law_worth (by decide) fun cdv A outer s0 H E hr B F0 => ?_
  have po := passes_of (X := cxOf (L2.CX P w) P w K mg base N__law_worth "_law_worth" (defScope s__law_worth) x.a__law_worth cdv A outer s0 H E) rfl
  have tk := takes_of (X := cxOf (L2.CX P w) P w K mg base N__law_worth "_law_worth" (defScope s__law_worth) x.a__law_worth cdv A outer s0 H E) rfl rfl rfl rfl
  exact (ss_cons (s_set (i := 1) sc__law_worth.nd rfl (by first | exact Or.inl rfl | exact Or.inr rfl) e_int)
  (ss_cons (s_for (S1 := L1__law_worth) po rfl (k_src rfl (f_of (e_var (pv 0)))) (pg_name (i := 2) sc__law_worth.nd rfl (by first | exact Or.inl rfl | exact Or.inr rfl)) g_name fun F0 =>
  (ss_one (s_set (i := 1) sc__law_worth.nd rfl (by first | exact Or.inl rfl | exact Or.inr rfl) (e_bin op_addA ok_add (p_of (e_bin op_mulA ok_mul (p_of e_int) (p_var (pv 1)))) (p_of (e_typ op_int1 ok_int (by rfl) x.m_int (by decide +kernel) (q_cons (p_of (e_cmp (op_eqD hr.units) ok_eq (p_var (pv 2)) (p_of (e_str (by kernel_rfl))) (nomark _))) q_nil)))))))
  (ss_one (s_retV (pv 1)))))
theorem b_class_counts (x : Fx K mg) : Binds K x.d_class_counts ["numbers"] [] := x.F_class_counts.bindsN fun _ _ _ _ _ _ us hl => match us, hl with | [_], _ => rfl
theorem ok_class_counts (x : Fx K mg) : FnOk P w K mg base (L2.CX P w) 3 x.a_class_counts x.d_class_counts ["numbers"] (spF K mg M_class_counts 1) := by
  refine ok_fun (He5.fun_of x.F_class_counts) sc_class_counts (by decide) fun cdv A outer s0 H E hr B F0 => ?_
  have po := passes_of (X := cxOf (L2.CX P w) P w K mg base N_class_counts "class_counts" (defScope s_class_counts) x.a_class_counts cdv A outer s0 H E) rfl
  have tk := takes_of (X := cxOf (L2.CX P w) P w K mg base N_class_counts "class_counts" (defScope s_class_counts) x.a_class_counts cdv A outer s0 H E) rfl rfl rfl rfl
  exact (ss_cons (s_set (i := 1) sc_class_counts.nd rfl (by first | exact Or.inl rfl | exact Or.inr rfl) (e_bin op_mulA ok_mul (p_of (e_lst (a_cons (f_of e_int) a_nil))) (p_of (e_bin op_addA ok_add (p_of (e_gint (by rfl) x.c_MOST_CLASS)) (p_of e_int)))))
  (ss_cons (s_for (S1 := L1_class_counts) po rfl (k_src rfl (f_of (e_var (pv 0)))) (pg_name (i := 2) sc_class_counts.nd rfl (by first | exact Or.inl rfl | exact Or.inr rfl)) g_name fun F0 =>
  (ss_one (s_augIx rfl (pv 1) (p_of (e_call (ok_class_of x) (hr.mono (by decide)) rfl rfl tk (fun ds h => runF_len ds h) (by rfl) x.g_class_of x.F_class_of.kp (b_class_of x) (c_vw (pv 2) c_nil))) (p_of e_int) iop_addA ok_addI)))
  (ss_one (s_retV (pv 1)))))
theorem b__law_counted (x : Fx K mg) : Binds K x.d__law_counted ["listed"] [] := x.F__law_counted.bindsN fun _ _ _ _ _ _ us hl => match us, hl with | [_], _ => rfl
theorem ok__law_counted (x : Fx K mg) : FnOk P w K mg base (L2.CX P w) 4 x.a__law_counted x.d__law_counted ["listed"] (spF K mg M__law_counted 1) := by
  refine ok_fun (He5.fun_of x.F__law_counted) sc__law_counted (by decide) fun cdv A outer s0 H E hr B F0 => ?_
  have po := passes_of (X := cxOf (L2.CX P w) P w K mg base N__law_counted "_law_counted" (defScope s__law_counted) x.a__law_counted cdv A outer s0 H E) rfl
  have tk := takes_of (X := cxOf (L2.CX P w) P w K mg base N__law_counted "_law_counted" (defScope s__law_counted) x.a__law_counted cdv A outer s0 H E) rfl rfl rfl rfl
  exact (ss_cons (s_set (i := 1) sc__law_counted.nd rfl (by first | exact Or.inl rfl | exact Or.inr rfl) (e_bin op_mulA ok_mul (p_of (e_lst (a_cons (f_of e_int) a_nil))) (p_of e_int)))
  (ss_cons (s_for (S1 := L1__law_counted) po rfl (k_src rfl (f_of (e_var (pv 0)))) (pg_name (i := 2) sc__law_counted.nd rfl (by first | exact Or.inl rfl | exact Or.inr rfl)) g_name fun F0 =>
  (ss_one (s_setL (f_of (e_bin op_addA ok_add (p_of (e_ix rfl (p_var (pv 1)) (p_of (e_blt op_lenA ok_len (by rfl) x.m_len (by decide +kernel) (q_cons (p_of (e_call (ok__law_text x) (hr.mono (by decide)) rfl rfl tk (fun ds h => runF_len ds h) (by rfl) x.g__law_text x.F__law_text.kp (b__law_text x) (c_vw (pv 2) c_nil))) q_nil))) (fun _ _ => rfl))) (p_of e_int))) (pv 1) (p_of (e_blt op_lenA ok_len (by rfl) x.m_len (by decide +kernel) (q_cons (p_of (e_call (ok__law_text x) (hr.mono (by decide)) rfl rfl tk (fun ds h => runF_len ds h) (by rfl) x.g__law_text x.F__law_text.kp (b__law_text x) (c_vw (pv 2) c_nil))) q_nil))))))
  (ss_cons (s_set (i := 3) sc__law_counted.nd rfl (by first | exact Or.inl rfl | exact Or.inr rfl) (e_call (ok_class_counts x) (hr.mono (by decide)) rfl rfl tk (fun ds h => runF_len ds h) (by rfl) x.g_class_counts x.F_class_counts.kp (b_class_counts x) (c_vw (pv 0) c_nil)))
  (ss_cons (s_if (w_or (t_not (t_tru rfl (p_of (e_isi (e_blt call_isi (ok_isi (by decide)) (by rfl) x.m_isinstance (by decide +kernel) (q_cons (p_var (pv 3)) (q_cons (p_ty .lst (by rfl) x.m_list (by decide +kernel)) q_nil))))) (fun _ => by rfl))) (w_or1 (t_cmp (op_neD hr.units) ok_ne (p_of (e_blt op_lenA ok_len (by rfl) x.m_len (by decide +kernel) (q_cons (p_var (pv 3)) q_nil))) (p_of e_int) (nomark _)))).pt
  (ss_one (s_ret e_bl))
  ss_nil)
  (ss_cons (s_for (S1 := L2__law_counted) po rfl (k_rng1 (by rfl) x.m_range (q_cons (p_of e_int) q_nil)) (pg_name (i := 4) sc__law_counted.nd rfl (by first | exact Or.inl rfl | exact Or.inr rfl)) g_name fun F0 =>
  (ss_one (s_if (t_not (t_tru rfl (p_of (e_call (ok__law_is_number x) (hr.mono (by decide)) rfl rfl tk (fun ds h => runF_len ds h) (by rfl) x.g__law_is_number x.F__law_is_number.kp (b__law_is_number x) (c_val (f_of (e_ix rfl (p_var (pv 3)) (p_var (pv 4)) (fun _ _ => rfl))) (c_val (f_of (e_ix rfl (p_var (pv 1)) (p_var (pv 4)) (fun _ _ => rfl))) c_nil)))) (fun _ => by rfl)))
  (ss_one (s_ret e_bl))
  ss_nil)))
  (ss_cons (s_setL (f_of (e_bin op_addA ok_add (p_of (e_ix rfl (p_var (pv 3)) (p_of e_int) (fun _ _ => rfl))) (p_of e_int))) (pv 3) (p_of e_int))
  (ss_cons (s_app rfl (pv 3) (f_of e_int))
  (ss_one (s_ret (e_cmp (op_eqD hr.units) ok_eq (p_of (e_call (ok_class_counts x) (hr.mono (by decide)) rfl rfl tk (fun ds h => runF_len ds h) (by rfl) x.g_class_counts x.F_class_counts.kp (b_class_counts x) (c_vw (pv 0) c_nil))) (p_var (pv 1)) (nomark _)))))))))))
theorem b_law (x : Fx K mg) : Binds K x.d_law ["script"] [] := x.F_law.bindsN fun _ _ _ _ _ _ us hl => match us, hl with | [_], _ => rfl
theorem ok_law (x : Fx K mg) : FnOk P w K mg base (L2.CX P w) 5 x.a_law x.d_law ["script"] (spF K mg M_law 1) := by
  refine ok_fun (He5.fun_of x.F_law) sc_law (by decide) fun cdv A outer s0 H E hr B F0 => ?_
  have po := passes_of (X := cxOf (L2.CX P w) P w K mg base N_law "law" (defScope s_law) x.a_law cdv A outer s0 H E) rfl
  have tk := takes_of (X := cxOf (L2.CX P w) P w K mg base N_law "law" (defScope s_law) x.a_law cdv A outer s0 H E) rfl rfl rfl rfl
  exact (ss_cons (s_set (i := 1) sc_law.nd rfl (by first | exact Or.inl rfl | exact Or.inr rfl) (e_call (ok__law_numbers x) (hr.mono (by decide)) rfl rfl tk (fun ds h => runF_len ds h) (by rfl) x.g__law_numbers x.F__law_numbers.kp (b__law_numbers x) (c_vw (pv 0) (c_val (f_of e_int) (c_val (f_of e_int) c_nil)))))
  (ss_cons (s_if (t_not (t_tru rfl (p_of (e_call (ok__law_one x) (hr.mono (by decide)) rfl rfl tk (fun ds h => runF_len ds h) (by rfl) x.g__law_one x.F__law_one.kp (b__law_one x) (c_val (f_of (e_call (ok__law_drawn x) (hr.mono (by decide)) rfl rfl tk (fun ds h => runF_len ds h) (by rfl) x.g__law_drawn x.F__law_drawn.kp (b__law_drawn x) (c_vw (pv 1) (c_val (f_of e_int) (c_val (f_of (e_bin op_mod ok_mod (p_of (e_ix rfl (p_var (pv 1)) (p_of e_int) (fun _ _ => rfl))) (p_of e_int))) c_nil))))) (c_val (f_of (e_bin op_mod ok_mod (p_of (e_ix rfl (p_var (pv 1)) (p_of e_int) (fun _ _ => rfl))) (p_of e_int))) c_nil)))) (fun _ => by rfl)))
  (ss_one (s_ret e_bl))
  ss_nil)
  (ss_cons (s_if (t_not (t_tru rfl (p_of (e_call (ok__law_one x) (hr.mono (by decide)) rfl rfl tk (fun ds h => runF_len ds h) (by rfl) x.g__law_one x.F__law_one.kp (b__law_one x) (c_val (f_of (e_call (ok__law_drawn x) (hr.mono (by decide)) rfl rfl tk (fun ds h => runF_len ds h) (by rfl) x.g__law_drawn x.F__law_drawn.kp (b__law_drawn x) (c_vw (pv 1) (c_val (f_of e_int) (c_val (f_of (e_bin op_mod ok_mod (p_of (e_ix rfl (p_var (pv 1)) (p_of e_int) (fun _ _ => rfl))) (p_of e_int))) c_nil))))) (c_val (f_of (e_bin op_mod ok_mod (p_of (e_ix rfl (p_var (pv 1)) (p_of e_int) (fun _ _ => rfl))) (p_of e_int))) c_nil)))) (fun _ => by rfl)))
  (ss_one (s_ret e_bl))
  ss_nil)
  (ss_cons (s_set (i := 2) sc_law.nd rfl (by first | exact Or.inl rfl | exact Or.inr rfl) (e_call (ok__law_power x) (hr.mono (by decide)) rfl rfl tk (fun ds h => runF_len ds h) (by rfl) x.g__law_power x.F__law_power.kp (b__law_power x) (c_val (f_of (e_bin op_mod ok_mod (p_of (e_ix rfl (p_var (pv 1)) (p_of e_int) (fun _ _ => rfl))) (p_of e_int))) c_nil)))
  (ss_cons (s_for (S1 := L1_law) po rfl (k_src rfl (f_of (e_lst (a_cons (f_of (e_bin op_sub ok_sub (p_var (pv 2)) (p_of e_int))) (a_cons (f_of (e_var (pv 2))) (a_cons (f_of (e_bin op_addA ok_add (p_var (pv 2)) (p_of e_int))) (a_cons (f_of e_int) (a_cons (f_of e_int) (a_cons (f_of e_int) a_nil))))))))) (pg_name (i := 3) sc_law.nd rfl (by first | exact Or.inl rfl | exact Or.inr rfl)) g_name fun F0 =>
  (ss_one (s_if (t_not (t_tru rfl (p_of (e_call (ok__law_one x) (hr.mono (by decide)) rfl rfl tk (fun ds h => runF_len ds h) (by rfl) x.g__law_one x.F__law_one.kp (b__law_one x) (c_vw (pv 3) (c_val (f_of (e_bin op_mod ok_mod (p_of (e_ix rfl (p_var (pv 1)) (p_of e_int) (fun _ _ => rfl))) (p_of e_int))) c_nil)))) (fun _ => by rfl)))
  (ss_one (s_ret e_bl))
  ss_nil)))
  (ss_cons (s_set (i := 4) sc_law.nd rfl (by first | exact Or.inl rfl | exact Or.inr rfl) (e_sm PySem.F.slot_str_join PySem.F.type_str_join op_join ok_join (p_of (e_str (by kernel_rfl))) (q_cons (p_of (e_lc (own := [("k", 7)] ) (E := C1_law) rfl sc_law.nd (j_rng1 (by rfl) x.m_range (q_cons (p_of (e_bin op_mod ok_mod (p_of (e_ix rfl (p_var (pv 1)) (p_of e_int) (fun _ _ => rfl))) (p_of e_int))) q_nil)) (blkOk_by (own := [("k", 7)]) (N := N_law) (sc := defScope s_law) (by decide +kernel)) (fun _ _ _ _ _ => (pg_name (i := 7) sc_law.nd rfl (by first | exact Or.inl rfl | exact Or.inr rfl))) g_name (fun j h => h) (fun _ _ _ _ _ => x_nil) (fun _ _ _ _ _ => x_elt fun B => (f_of (e_ix rfl (p_of (e_str (by kernel_rfl))) (p_of (e_bin op_mod ok_mod (p_of (e_ix rfl (p_var (pv 1)) (p_of (e_bin op_addA ok_add (p_of e_int) (p_var (pv 7)))) (fun _ _ => rfl))) (p_of e_int))) (fun _ _ => rfl)))))) q_nil)))
  (ss_cons (s_if (w_or (t_not (t_tru rfl (p_of (e_call (ok__law_is_number x) (hr.mono (by decide)) rfl rfl tk (fun ds h => runF_len ds h) (by rfl) x.g__law_is_number x.F__law_is_number.kp (b__law_is_number x) (c_val (f_of (e_call (ok_number_of_bits x) (hr.mono (by decide)) rfl rfl tk (fun ds h => runF_len ds h) (by rfl) x.g_number_of_bits x.F_number_of_bits.kp (b_number_of_bits x) (c_vw (pv 4) c_nil))) (c_val (f_of (e_call (ok__law_worth x) (hr.mono (by decide)) rfl rfl tk (fun ds h => runF_len ds h) (by rfl) x.g__law_worth x.F__law_worth.kp (b__law_worth x) (c_vw (pv 4) c_nil))) c_nil)))) (fun _ => by rfl))) (w_or1 (t_not (t_tru rfl (p_of (e_call (ok__law_is_text x) (hr.mono (by decide)) rfl rfl tk (fun ds h => runF_len ds h) (by rfl) x.g__law_is_text x.F__law_is_text.kp (b__law_is_text x) (c_val (f_of (e_call (ok_wide_text x) (hr.mono (by decide)) rfl rfl tk (fun ds h => runF_len ds h) (by rfl) x.g_wide_text x.F_wide_text.kp (b_wide_text x) (c_val (f_of (e_call (ok__law_worth x) (hr.mono (by decide)) rfl rfl tk (fun ds h => runF_len ds h) (by rfl) x.g__law_worth x.F__law_worth.kp (b__law_worth x) (c_vw (pv 4) c_nil))) (c_val (f_of (e_blt op_lenA ok_len (by rfl) x.m_len (by decide +kernel) (q_cons (p_var (pv 4)) q_nil))) c_nil)))) (c_vw (pv 4) c_nil)))) (fun _ => by rfl))))).pt
  (ss_one (s_ret e_bl))
  ss_nil)
  (ss_cons (s_if (t_not (t_tru rfl (p_of (e_call (ok__law_is_number x) (hr.mono (by decide)) rfl rfl tk (fun ds h => runF_len ds h) (by rfl) x.g__law_is_number x.F__law_is_number.kp (b__law_is_number x) (c_val (f_of (e_call (ok_number_of x) (hr.mono (by decide)) rfl rfl tk (fun ds h => runF_len ds h) (by rfl) x.g_number_of x.F_number_of.kp (b_number_of x) (c_val (f_of (e_bin op_addA ok_add (p_of (e_blt op_lenA ok_len (by rfl) x.m_len (by decide +kernel) (q_cons (p_var (pv 4)) q_nil))) (p_of e_int))) (c_vw (pv 4) c_nil)))) (c_val (f_of (e_call (ok__law_worth x) (hr.mono (by decide)) rfl rfl tk (fun ds h => runF_len ds h) (by rfl) x.g__law_worth x.F__law_worth.kp (b__law_worth x) (c_val (f_of (e_bin op_addA ok_add (p_of (e_str (by kernel_rfl))) (p_var (pv 4)))) c_nil))) c_nil)))) (fun _ => by rfl)))
  (ss_one (s_ret e_bl))
  ss_nil)
  (ss_cons (s_set (i := 5) sc_law.nd rfl (by first | exact Or.inl rfl | exact Or.inr rfl) (e_call (ok__law_numbers x) (hr.mono (by decide)) rfl rfl tk (fun ds h => runF_len ds h) (by rfl) x.g__law_numbers x.F__law_numbers.kp (b__law_numbers x) (c_vw (pv 0) (c_val (f_of e_int) (c_val (f_of e_int) c_nil)))))
  (ss_cons (s_set (i := 6) sc_law.nd rfl (by first | exact Or.inl rfl | exact Or.inr rfl) (e_lst a_nil))
  (ss_cons (s_for (S1 := L2_law) po rfl (k_rng1 (by rfl) x.m_range (q_cons (p_of (e_bin op_mod ok_mod (p_of (e_ix rfl (p_var (pv 1)) (p_of e_int) (fun _ _ => rfl))) (p_of e_int))) q_nil)) (pg_name (i := 7) sc_law.nd rfl (by first | exact Or.inl rfl | exact Or.inr rfl)) g_name fun F0 =>
  (ss_one (s_app rfl (pv 6) (f_of (e_bin op_mod ok_mod (p_of (e_typ op_int1 ok_int (by rfl) x.m_int (by decide +kernel) (q_cons (p_of (e_bin op_addA ok_add (p_of (e_bin op_mulA ok_mul (p_of (e_ix rfl (p_var (pv 5)) (p_var (pv 7)) (fun _ _ => rfl))) (p_of e_int))) (p_of (e_ix rfl (p_var (pv 5)) (p_of (e_bin op_addA ok_add (p_var (pv 7)) (p_of e_int))) (fun _ _ => rfl))))) q_nil))) (p_of (e_call (ok__law_power x) (hr.mono (by decide)) rfl rfl tk (fun ds h => runF_len ds h) (by rfl) x.g__law_power x.F__law_power.kp (b__law_power x) (c_val (f_of (e_bin op_mod ok_mod (p_of (e_ix rfl (p_var (pv 5)) (p_of (e_bin op_sub ok_sub (p_of (e_bin op_addA ok_add (p_var (pv 7)) (p_of e_int))) (p_of (e_bin op_mod ok_mod (p_of (e_ix rfl (p_var (pv 1)) (p_of e_int) (fun _ _ => rfl))) (p_of e_int))))) (fun _ _ => rfl))) (p_of e_int))) c_nil))))))))
  (ss_cons (s_set (i := 8) sc_law.nd rfl (by first | exact Or.inl rfl | exact Or.inr rfl) (e_typ op_list1 ok_list (by rfl) x.m_list (by decide +kernel) (q_cons (p_var (pv 6)) q_nil)))
  (ss_cons (s_if (w_or (t_not (t_tru rfl (p_of (e_call (ok__law_counted x) (hr.mono (by decide)) rfl rfl tk (fun ds h => runF_len ds h) (by rfl) x.g__law_counted x.F__law_counted.kp (b__law_counted x) (c_vw (pv 6) c_nil))) (fun _ => by rfl))) (w_or (t_cmp (op_neD hr.units) ok_ne (p_var (pv 6)) (p_var (pv 8)) (nomark _)) (w_or1 (t_not (t_tru rfl (p_of (e_call (ok__law_counted x) (hr.mono (by decide)) rfl rfl tk (fun ds h => runF_len ds h) (by rfl) x.g__law_counted x.F__law_counted.kp (b__law_counted x) (c_val (f_of (e_bin op_addA ok_add (p_of (e_lst (a_cons (f_of e_int) (a_cons (f_of e_int) (a_cons (f_of e_int) (a_cons (f_of e_int) (a_cons (f_of e_int) a_nil))))))) (p_var (pv 6)))) c_nil))) (fun _ => by rfl)))))).pt
  (ss_one (s_ret e_bl))
  ss_nil)
  (ss_cons (s_app rfl (pv 6) (f_of e_int))
  (ss_one (s_ret (v_and (e_call (ok__law_counted x) (hr.mono (by decide)) rfl rfl tk (fun ds h => runF_len ds h) (by rfl) x.g__law_counted x.F__law_counted.kp (b__law_counted x) (c_vw (pv 6) c_nil)) (v_one (e_call (ok__law_counted x) (hr.mono (by decide)) rfl rfl tk (fun ds h => runF_len ds h) (by rfl) x.g__law_counted x.F__law_counted.kp (b__law_counted x) (c_val (f_of (e_lst a_nil)) c_nil))))))))))))))))))))
end
end LawW
namespace LawW
open PySem L2 PM
/-! ### bits -/
def bl (n : Nat) : List Nat := if h : n = 0 then [] else bl (n / 2) ++ [48 + n % 2]
termination_by n
decreasing_by omega
theorem bl_zero : bl 0 = [] := by unfold bl; rfl
theorem bl_pos {n : Nat} (h : n ≠ 0) : bl n = bl (n / 2) ++ [48 + n % 2] := by
  rw [bl, dif_neg h]
theorem bl_len : ∀ (m n : Nat), n < 2 ^ m → (bl n).length ≤ m
  | 0, n, h => by
    have : n = 0 := by simpa using h
    subst this
    rw [bl_zero]; simp
  | m + 1, n, h => by
    by_cases z : n = 0
    · subst z; rw [bl_zero]; simp
    · rw [bl_pos z, List.length_append]
      have := bl_len m (n / 2) (by rw [Nat.pow_succ] at h; omega)
      simp; omega
theorem bl_chr : ∀ (m n : Nat), n < 2 ^ m → ∀ c ∈ bl n, c = 48 ∨ c = 49
  | 0, n, h => by
    have : n = 0 := by simpa using h
    subst this
    rw [bl_zero]; simp
  | m + 1, n, h => by
    by_cases z : n = 0
    · subst z; rw [bl_zero]; simp
    · rw [bl_pos z]
      intro c hc
      rcases List.mem_append.mp hc with hc | hc
      · exact bl_chr m (n / 2) (by rw [Nat.pow_succ] at h; omega) c hc
      · have : c = 48 + n % 2 := by simpa using hc
        omega
theorem bl_head : ∀ (m n : Nat), n < 2 ^ m → n ≠ 0 → ∃ r, bl n = 49 :: r
  | 0, n, h, z => absurd (by simpa using h) z
  | m + 1, n, h, z => by
    rw [bl_pos z]
    by_cases y : n / 2 = 0
    · have : n = 1 := by omega
      subst this
      exact ⟨[], by rw [show 1 / 2 = 0 from rfl, bl_zero]; rfl⟩
    · obtain ⟨r, e⟩ := bl_head m (n / 2) (by rw [Nat.pow_succ] at h; omega) y
      exact ⟨r ++ [48 + n % 2], by rw [e]; rfl⟩
theorem chr_bit (n : Nat) : (Str.ofString (toString (((n % 2 : Nat) : Int)))).cps.toList = [48 + n % 2] := by
  rcases Nat.mod_two_eq_zero_or_one n with h | h <;> rw [h] <;> decide +kernel
theorem z0 : decide ((0 : Int) < ((0 : Nat) : Int)) = false := by decide
theorem one_log (n : Nat) : ((n % 2 : Nat) : Int).natAbs.log2 < 1920 := by
  have h2 : ((n % 2 : Nat) : Int).natAbs = 0 ∨ ((n % 2 : Nat) : Int).natAbs = 1 := by omega
  rcases h2 with h2 | h2 <;> rw [h2] <;> decide
theorem two_log : (2 : Int).natAbs.log2 < 9000 := by decide
theorem sl_eq : (sizeLine : Nat) = 16777216 := rfl
theorem bit_loop : ∀ (m k n : Nat) (acc : List Nat), n < 2 ^ m → acc.length + m ≤ 1000 →
    whileF W1_bit_text L1_bit_text (m + 1 + k) [some (false, .int (n : Int)), some (false, .str acc)] = .nx [some (false, .int 0), some (false, .str (bl n ++ acc))] := by
  intro m
  induction m with
  | zero =>
    intro k n acc h _
    have : n = 0 := by simpa using h
    subst this
    rw [show 0 + 1 + k = k + 1 by omega, while_stop (ρ1 := [some (false, .int ((0 : Nat) : Int)), some (false, .str acc)]) (by simp only [W1_bit_text, PM.callE, PM.runF, PM.initE, PM.seqS, PM.asgS, PM.tgS, PM.parS, PM.appS, PM.augS, PM.dropS, PM.retS, PM.retN, PM.retV, PM.ifS, PM.forS, PM.M.thenS, PM.M.bind, PM.M.lift, PM.ret, PM.cst, PM.var, PM.pvar, PM.pk, PM.bin, PM.asB, PM.truth, PM.tru, PM.tand, PM.tor, PM.tnot, PM.vand, PM.vor, PM.vnot, PM.iff, PM.sli, PM.ono, PM.oin, PM.acons, PM.anil, PM.cnil, PM.cval, PM.cvw, PM.lstE, PM.tupE, PM.blt, PM.isi, PM.una, PM.smE, PM.src, PM.rng1, PM.rng2, PM.skip, PM.brkS, PM.cntS, PM.tgN, PM.itemsD, PM.tyD, PM.Ty.sub, PM.addD, PM.addIA, PM.subD, PM.mulD, PM.mulID, PM.fdivD, PM.modD, PM.powD, PM.ltD, PM.leD, PM.gtD, PM.geD, PM.cmpD, PM.eqD, PM.neD, PM.ixD, PM.sliceD, PM.lenD, PM.intD, PM.strD, PM.listD, PM.tupD, PM.joinD, PM.rjustD, PM.negD, List.length_cons, List.length_nil, List.getElem?_cons_zero, List.getElem?_cons_succ, List.set_cons_zero, List.set_cons_succ, List.map_cons, List.map_nil, List.cons_append, List.nil_append, List.append_nil, List.replicate, List.length_map, List.length_append, if_true, if_false, ite_true, ite_false, reduceIte, Bool.false_eq_true, decide_eq_true_eq, Option.map_some, Option.map_none, Option.bind_some, Option.bind_none, Option.some.injEq, Option.join, List.isEmpty_cons, List.isEmpty_nil, List.all_cons, List.all_nil, PM.owned, PM.noLS, PM.noL, PM.noLs, Bool.or_true, Bool.true_or, Bool.or_false, Bool.false_or, Bool.and_true, Bool.true_and, Bool.and_false, Bool.false_and, Bool.not_true, Bool.not_false, List.isEmpty_map, PM.setS, PM.augIxS, Nat.zero_add, Nat.reduceAdd, Nat.reduceSub, Nat.reduceLT, Nat.reduceEqDiff, z0]), bl_zero]
    rfl
  | succ m ih =>
    intro k n acc h hl
    rw [show m + 1 + 1 + k = (m + 1 + k) + 1 by omega]
    by_cases z : n = 0
    · subst z
      rw [while_stop (ρ1 := [some (false, .int ((0 : Nat) : Int)), some (false, .str acc)]) (by simp only [W1_bit_text, PM.callE, PM.runF, PM.initE, PM.seqS, PM.asgS, PM.tgS, PM.parS, PM.appS, PM.augS, PM.dropS, PM.retS, PM.retN, PM.retV, PM.ifS, PM.forS, PM.M.thenS, PM.M.bind, PM.M.lift, PM.ret, PM.cst, PM.var, PM.pvar, PM.pk, PM.bin, PM.asB, PM.truth, PM.tru, PM.tand, PM.tor, PM.tnot, PM.vand, PM.vor, PM.vnot, PM.iff, PM.sli, PM.ono, PM.oin, PM.acons, PM.anil, PM.cnil, PM.cval, PM.cvw, PM.lstE, PM.tupE, PM.blt, PM.isi, PM.una, PM.smE, PM.src, PM.rng1, PM.rng2, PM.skip, PM.brkS, PM.cntS, PM.tgN, PM.itemsD, PM.tyD, PM.Ty.sub, PM.addD, PM.addIA, PM.subD, PM.mulD, PM.mulID, PM.fdivD, PM.modD, PM.powD, PM.ltD, PM.leD, PM.gtD, PM.geD, PM.cmpD, PM.eqD, PM.neD, PM.ixD, PM.sliceD, PM.lenD, PM.intD, PM.strD, PM.listD, PM.tupD, PM.joinD, PM.rjustD, PM.negD, List.length_cons, List.length_nil, List.getElem?_cons_zero, List.getElem?_cons_succ, List.set_cons_zero, List.set_cons_succ, List.map_cons, List.map_nil, List.cons_append, List.nil_append, List.append_nil, List.replicate, List.length_map, List.length_append, if_true, if_false, ite_true, ite_false, reduceIte, Bool.false_eq_true, decide_eq_true_eq, Option.map_some, Option.map_none, Option.bind_some, Option.bind_none, Option.some.injEq, Option.join, List.isEmpty_cons, List.isEmpty_nil, List.all_cons, List.all_nil, PM.owned, PM.noLS, PM.noL, PM.noLs, Bool.or_true, Bool.true_or, Bool.or_false, Bool.false_or, Bool.and_true, Bool.true_and, Bool.and_false, Bool.false_and, Bool.not_true, Bool.not_false, List.isEmpty_map, PM.setS, PM.augIxS, Nat.zero_add, Nat.reduceAdd, Nat.reduceSub, Nat.reduceLT, Nat.reduceEqDiff, z0]), bl_zero]
      rfl
    · have hpos : (decide ((0 : Int) < (n : Int))) = true := decide_eq_true (by omega)
      have hm : (n : Int) % 2 = ((n % 2 : Nat) : Int) := by omega
      have hd : (n : Int) / 2 = ((n / 2 : Nat) : Int) := by omega
      have hsz : 1 + acc.length ≤ sizeLine := by rw [sl_eq]; omega
      rw [while_go (ρ1 := [some (false, .int (n : Int)), some (false, .str acc)]) (ρ2 := [some (false, .int ((n / 2 : Nat) : Int)), some (false, .str ((48 + n % 2) :: acc))]) (by simp only [W1_bit_text, PM.callE, PM.runF, PM.initE, PM.seqS, PM.asgS, PM.tgS, PM.parS, PM.appS, PM.augS, PM.dropS, PM.retS, PM.retN, PM.retV, PM.ifS, PM.forS, PM.M.thenS, PM.M.bind, PM.M.lift, PM.ret, PM.cst, PM.var, PM.pvar, PM.pk, PM.bin, PM.asB, PM.truth, PM.tru, PM.tand, PM.tor, PM.tnot, PM.vand, PM.vor, PM.vnot, PM.iff, PM.sli, PM.ono, PM.oin, PM.acons, PM.anil, PM.cnil, PM.cval, PM.cvw, PM.lstE, PM.tupE, PM.blt, PM.isi, PM.una, PM.smE, PM.src, PM.rng1, PM.rng2, PM.skip, PM.brkS, PM.cntS, PM.tgN, PM.itemsD, PM.tyD, PM.Ty.sub, PM.addD, PM.addIA, PM.subD, PM.mulD, PM.mulID, PM.fdivD, PM.modD, PM.powD, PM.ltD, PM.leD, PM.gtD, PM.geD, PM.cmpD, PM.eqD, PM.neD, PM.ixD, PM.sliceD, PM.lenD, PM.intD, PM.strD, PM.listD, PM.tupD, PM.joinD, PM.rjustD, PM.negD, List.length_cons, List.length_nil, List.getElem?_cons_zero, List.getElem?_cons_succ, List.set_cons_zero, List.set_cons_succ, List.map_cons, List.map_nil, List.cons_append, List.nil_append, List.append_nil, List.replicate, List.length_map, List.length_append, if_true, if_false, ite_true, ite_false, reduceIte, Bool.false_eq_true, decide_eq_true_eq, Option.map_some, Option.map_none, Option.bind_some, Option.bind_none, Option.some.injEq, Option.join, List.isEmpty_cons, List.isEmpty_nil, List.all_cons, List.all_nil, PM.owned, PM.noLS, PM.noL, PM.noLs, Bool.or_true, Bool.true_or, Bool.or_false, Bool.false_or, Bool.and_true, Bool.true_and, Bool.and_false, Bool.false_and, Bool.not_true, Bool.not_false, List.isEmpty_map, PM.setS, PM.augIxS, Nat.zero_add, Nat.reduceAdd, Nat.reduceSub, Nat.reduceLT, Nat.reduceEqDiff, hpos])
        (by simp only [L1_bit_text, PM.callE, PM.runF, PM.initE, PM.seqS, PM.asgS, PM.tgS, PM.parS, PM.appS, PM.augS, PM.dropS, PM.retS, PM.retN, PM.retV, PM.ifS, PM.forS, PM.M.thenS, PM.M.bind, PM.M.lift, PM.ret, PM.cst, PM.var, PM.pvar, PM.pk, PM.bin, PM.asB, PM.truth, PM.tru, PM.tand, PM.tor, PM.tnot, PM.vand, PM.vor, PM.vnot, PM.iff, PM.sli, PM.ono, PM.oin, PM.acons, PM.anil, PM.cnil, PM.cval, PM.cvw, PM.lstE, PM.tupE, PM.blt, PM.isi, PM.una, PM.smE, PM.src, PM.rng1, PM.rng2, PM.skip, PM.brkS, PM.cntS, PM.tgN, PM.itemsD, PM.tyD, PM.Ty.sub, PM.addD, PM.addIA, PM.subD, PM.mulD, PM.mulID, PM.fdivD, PM.modD, PM.powD, PM.ltD, PM.leD, PM.gtD, PM.geD, PM.cmpD, PM.eqD, PM.neD, PM.ixD, PM.sliceD, PM.lenD, PM.intD, PM.strD, PM.listD, PM.tupD, PM.joinD, PM.rjustD, PM.negD, List.length_cons, List.length_nil, List.getElem?_cons_zero, List.getElem?_cons_succ, List.set_cons_zero, List.set_cons_succ, List.map_cons, List.map_nil, List.cons_append, List.nil_append, List.append_nil, List.replicate, List.length_map, List.length_append, if_true, if_false, ite_true, ite_false, reduceIte, Bool.false_eq_true, decide_eq_true_eq, Option.map_some, Option.map_none, Option.bind_some, Option.bind_none, Option.some.injEq, Option.join, List.isEmpty_cons, List.isEmpty_nil, List.all_cons, List.all_nil, PM.owned, PM.noLS, PM.noL, PM.noLs, Bool.or_true, Bool.true_or, Bool.or_false, Bool.false_or, Bool.and_true, Bool.true_and, Bool.and_false, Bool.false_and, Bool.not_true, Bool.not_false, List.isEmpty_map, PM.setS, PM.augIxS, Nat.zero_add, Nat.reduceAdd, Nat.reduceSub, Nat.reduceLT, Nat.reduceEqDiff, show (0 : Int) < 2 by decide, hm, one_log, chr_bit, hsz, hd, two_log, and_self])]
      rw [ih k (n / 2) ((48 + n % 2) :: acc) (by rw [Nat.pow_succ] at h; omega) (by simp; omega), bl_pos z]
      simp
theorem bit_text_ok {n : Nat} (h : n < 2 ^ 100) : M_bit_text [.int (n : Int)] = .ok (false, .str (bl n)) := by
  obtain ⟨k, e⟩ := fuel_eq 100 (by decide)
  unfold M_bit_text S_bit_text
  rw [e]
  simp only [PM.callE, PM.runF, PM.initE, PM.seqS, PM.asgS, PM.tgS, PM.parS, PM.appS, PM.augS, PM.dropS, PM.retS, PM.retN, PM.retV, PM.ifS, PM.forS, PM.M.thenS, PM.M.bind, PM.M.lift, PM.ret, PM.cst, PM.var, PM.pvar, PM.pk, PM.bin, PM.asB, PM.truth, PM.tru, PM.tand, PM.tor, PM.tnot, PM.vand, PM.vor, PM.vnot, PM.iff, PM.sli, PM.ono, PM.oin, PM.acons, PM.anil, PM.cnil, PM.cval, PM.cvw, PM.lstE, PM.tupE, PM.blt, PM.isi, PM.una, PM.smE, PM.src, PM.rng1, PM.rng2, PM.skip, PM.brkS, PM.cntS, PM.tgN, PM.itemsD, PM.tyD, PM.Ty.sub, PM.addD, PM.addIA, PM.subD, PM.mulD, PM.mulID, PM.fdivD, PM.modD, PM.powD, PM.ltD, PM.leD, PM.gtD, PM.geD, PM.cmpD, PM.eqD, PM.neD, PM.ixD, PM.sliceD, PM.lenD, PM.intD, PM.strD, PM.listD, PM.tupD, PM.joinD, PM.rjustD, PM.negD, List.length_cons, List.length_nil, List.getElem?_cons_zero, List.getElem?_cons_succ, List.set_cons_zero, List.set_cons_succ, List.map_cons, List.map_nil, List.cons_append, List.nil_append, List.append_nil, List.replicate, List.length_map, List.length_append, if_true, if_false, ite_true, ite_false, reduceIte, Bool.false_eq_true, decide_eq_true_eq, Option.map_some, Option.map_none, Option.bind_some, Option.bind_none, Option.some.injEq, Option.join, List.isEmpty_cons, List.isEmpty_nil, List.all_cons, List.all_nil, PM.owned, PM.noLS, PM.noL, PM.noLs, Bool.or_true, Bool.true_or, Bool.or_false, Bool.false_or, Bool.and_true, Bool.true_and, Bool.and_false, Bool.false_and, Bool.not_true, Bool.not_false, List.isEmpty_map, PM.setS, PM.augIxS, Nat.zero_add, Nat.reduceAdd, Nat.reduceSub, Nat.reduceLT, Nat.reduceEqDiff, bit_loop 100 k n [] h (by simp)]
theorem cnt_loop : ∀ (m k n : Nat) (acc : Int), n < 2 ^ m →
    whileF W1_bit_count L1_bit_count (m + 1 + k) [some (false, .int (n : Int)), some (false, .int acc)] = .nx [some (false, .int 0), some (false, .int (acc + (bl n).length))] := by
  intro m
  induction m with
  | zero =>
    intro k n acc h
    have : n = 0 := by simpa using h
    subst this
    rw [show 0 + 1 + k = k + 1 by omega, while_stop (ρ1 := [some (false, .int ((0 : Nat) : Int)), some (false, .int acc)]) (by simp only [W1_bit_count, PM.callE, PM.runF, PM.initE, PM.seqS, PM.asgS, PM.tgS, PM.parS, PM.appS, PM.augS, PM.dropS, PM.retS, PM.retN, PM.retV, PM.ifS, PM.forS, PM.M.thenS, PM.M.bind, PM.M.lift, PM.ret, PM.cst, PM.var, PM.pvar, PM.pk, PM.bin, PM.asB, PM.truth, PM.tru, PM.tand, PM.tor, PM.tnot, PM.vand, PM.vor, PM.vnot, PM.iff, PM.sli, PM.ono, PM.oin, PM.acons, PM.anil, PM.cnil, PM.cval, PM.cvw, PM.lstE, PM.tupE, PM.blt, PM.isi, PM.una, PM.smE, PM.src, PM.rng1, PM.rng2, PM.skip, PM.brkS, PM.cntS, PM.tgN, PM.itemsD, PM.tyD, PM.Ty.sub, PM.addD, PM.addIA, PM.subD, PM.mulD, PM.mulID, PM.fdivD, PM.modD, PM.powD, PM.ltD, PM.leD, PM.gtD, PM.geD, PM.cmpD, PM.eqD, PM.neD, PM.ixD, PM.sliceD, PM.lenD, PM.intD, PM.strD, PM.listD, PM.tupD, PM.joinD, PM.rjustD, PM.negD, List.length_cons, List.length_nil, List.getElem?_cons_zero, List.getElem?_cons_succ, List.set_cons_zero, List.set_cons_succ, List.map_cons, List.map_nil, List.cons_append, List.nil_append, List.append_nil, List.replicate, List.length_map, List.length_append, if_true, if_false, ite_true, ite_false, reduceIte, Bool.false_eq_true, decide_eq_true_eq, Option.map_some, Option.map_none, Option.bind_some, Option.bind_none, Option.some.injEq, Option.join, List.isEmpty_cons, List.isEmpty_nil, List.all_cons, List.all_nil, PM.owned, PM.noLS, PM.noL, PM.noLs, Bool.or_true, Bool.true_or, Bool.or_false, Bool.false_or, Bool.and_true, Bool.true_and, Bool.and_false, Bool.false_and, Bool.not_true, Bool.not_false, List.isEmpty_map, PM.setS, PM.augIxS, Nat.zero_add, Nat.reduceAdd, Nat.reduceSub, Nat.reduceLT, Nat.reduceEqDiff, z0]), bl_zero]
    simp
  | succ m ih =>
    intro k n acc h
    rw [show m + 1 + 1 + k = (m + 1 + k) + 1 by omega]
    by_cases z : n = 0
    · subst z
      rw [while_stop (ρ1 := [some (false, .int ((0 : Nat) : Int)), some (false, .int acc)]) (by simp only [W1_bit_count, PM.callE, PM.runF, PM.initE, PM.seqS, PM.asgS, PM.tgS, PM.parS, PM.appS, PM.augS, PM.dropS, PM.retS, PM.retN, PM.retV, PM.ifS, PM.forS, PM.M.thenS, PM.M.bind, PM.M.lift, PM.ret, PM.cst, PM.var, PM.pvar, PM.pk, PM.bin, PM.asB, PM.truth, PM.tru, PM.tand, PM.tor, PM.tnot, PM.vand, PM.vor, PM.vnot, PM.iff, PM.sli, PM.ono, PM.oin, PM.acons, PM.anil, PM.cnil, PM.cval, PM.cvw, PM.lstE, PM.tupE, PM.blt, PM.isi, PM.una, PM.smE, PM.src, PM.rng1, PM.rng2, PM.skip, PM.brkS, PM.cntS, PM.tgN, PM.itemsD, PM.tyD, PM.Ty.sub, PM.addD, PM.addIA, PM.subD, PM.mulD, PM.mulID, PM.fdivD, PM.modD, PM.powD, PM.ltD, PM.leD, PM.gtD, PM.geD, PM.cmpD, PM.eqD, PM.neD, PM.ixD, PM.sliceD, PM.lenD, PM.intD, PM.strD, PM.listD, PM.tupD, PM.joinD, PM.rjustD, PM.negD, List.length_cons, List.length_nil, List.getElem?_cons_zero, List.getElem?_cons_succ, List.set_cons_zero, List.set_cons_succ, List.map_cons, List.map_nil, List.cons_append, List.nil_append, List.append_nil, List.replicate, List.length_map, List.length_append, if_true, if_false, ite_true, ite_false, reduceIte, Bool.false_eq_true, decide_eq_true_eq, Option.map_some, Option.map_none, Option.bind_some, Option.bind_none, Option.some.injEq, Option.join, List.isEmpty_cons, List.isEmpty_nil, List.all_cons, List.all_nil, PM.owned, PM.noLS, PM.noL, PM.noLs, Bool.or_true, Bool.true_or, Bool.or_false, Bool.false_or, Bool.and_true, Bool.true_and, Bool.and_false, Bool.false_and, Bool.not_true, Bool.not_false, List.isEmpty_map, PM.setS, PM.augIxS, Nat.zero_add, Nat.reduceAdd, Nat.reduceSub, Nat.reduceLT, Nat.reduceEqDiff, z0]), bl_zero]
      simp
    · have hpos : (decide ((0 : Int) < (n : Int))) = true := decide_eq_true (by omega)
      have hd : (n : Int) / 2 = ((n / 2 : Nat) : Int) := by omega
      rw [while_go (ρ1 := [some (false, .int (n : Int)), some (false, .int acc)]) (ρ2 := [some (false, .int ((n / 2 : Nat) : Int)), some (false, .int (acc + 1))]) (by simp only [W1_bit_count, PM.callE, PM.runF, PM.initE, PM.seqS, PM.asgS, PM.tgS, PM.parS, PM.appS, PM.augS, PM.dropS, PM.retS, PM.retN, PM.retV, PM.ifS, PM.forS, PM.M.thenS, PM.M.bind, PM.M.lift, PM.ret, PM.cst, PM.var, PM.pvar, PM.pk, PM.bin, PM.asB, PM.truth, PM.tru, PM.tand, PM.tor, PM.tnot, PM.vand, PM.vor, PM.vnot, PM.iff, PM.sli, PM.ono, PM.oin, PM.acons, PM.anil, PM.cnil, PM.cval, PM.cvw, PM.lstE, PM.tupE, PM.blt, PM.isi, PM.una, PM.smE, PM.src, PM.rng1, PM.rng2, PM.skip, PM.brkS, PM.cntS, PM.tgN, PM.itemsD, PM.tyD, PM.Ty.sub, PM.addD, PM.addIA, PM.subD, PM.mulD, PM.mulID, PM.fdivD, PM.modD, PM.powD, PM.ltD, PM.leD, PM.gtD, PM.geD, PM.cmpD, PM.eqD, PM.neD, PM.ixD, PM.sliceD, PM.lenD, PM.intD, PM.strD, PM.listD, PM.tupD, PM.joinD, PM.rjustD, PM.negD, List.length_cons, List.length_nil, List.getElem?_cons_zero, List.getElem?_cons_succ, List.set_cons_zero, List.set_cons_succ, List.map_cons, List.map_nil, List.cons_append, List.nil_append, List.append_nil, List.replicate, List.length_map, List.length_append, if_true, if_false, ite_true, ite_false, reduceIte, Bool.false_eq_true, decide_eq_true_eq, Option.map_some, Option.map_none, Option.bind_some, Option.bind_none, Option.some.injEq, Option.join, List.isEmpty_cons, List.isEmpty_nil, List.all_cons, List.all_nil, PM.owned, PM.noLS, PM.noL, PM.noLs, Bool.or_true, Bool.true_or, Bool.or_false, Bool.false_or, Bool.and_true, Bool.true_and, Bool.and_false, Bool.false_and, Bool.not_true, Bool.not_false, List.isEmpty_map, PM.setS, PM.augIxS, Nat.zero_add, Nat.reduceAdd, Nat.reduceSub, Nat.reduceLT, Nat.reduceEqDiff, hpos])
        (by simp only [L1_bit_count, PM.callE, PM.runF, PM.initE, PM.seqS, PM.asgS, PM.tgS, PM.parS, PM.appS, PM.augS, PM.dropS, PM.retS, PM.retN, PM.retV, PM.ifS, PM.forS, PM.M.thenS, PM.M.bind, PM.M.lift, PM.ret, PM.cst, PM.var, PM.pvar, PM.pk, PM.bin, PM.asB, PM.truth, PM.tru, PM.tand, PM.tor, PM.tnot, PM.vand, PM.vor, PM.vnot, PM.iff, PM.sli, PM.ono, PM.oin, PM.acons, PM.anil, PM.cnil, PM.cval, PM.cvw, PM.lstE, PM.tupE, PM.blt, PM.isi, PM.una, PM.smE, PM.src, PM.rng1, PM.rng2, PM.skip, PM.brkS, PM.cntS, PM.tgN, PM.itemsD, PM.tyD, PM.Ty.sub, PM.addD, PM.addIA, PM.subD, PM.mulD, PM.mulID, PM.fdivD, PM.modD, PM.powD, PM.ltD, PM.leD, PM.gtD, PM.geD, PM.cmpD, PM.eqD, PM.neD, PM.ixD, PM.sliceD, PM.lenD, PM.intD, PM.strD, PM.listD, PM.tupD, PM.joinD, PM.rjustD, PM.negD, List.length_cons, List.length_nil, List.getElem?_cons_zero, List.getElem?_cons_succ, List.set_cons_zero, List.set_cons_succ, List.map_cons, List.map_nil, List.cons_append, List.nil_append, List.append_nil, List.replicate, List.length_map, List.length_append, if_true, if_false, ite_true, ite_false, reduceIte, Bool.false_eq_true, decide_eq_true_eq, Option.map_some, Option.map_none, Option.bind_some, Option.bind_none, Option.some.injEq, Option.join, List.isEmpty_cons, List.isEmpty_nil, List.all_cons, List.all_nil, PM.owned, PM.noLS, PM.noL, PM.noLs, Bool.or_true, Bool.true_or, Bool.or_false, Bool.false_or, Bool.and_true, Bool.true_and, Bool.and_false, Bool.false_and, Bool.not_true, Bool.not_false, List.isEmpty_map, PM.setS, PM.augIxS, Nat.zero_add, Nat.reduceAdd, Nat.reduceSub, Nat.reduceLT, Nat.reduceEqDiff, show (0 : Int) < 2 by decide, hd, two_log, and_self])]
      rw [ih k (n / 2) (acc + 1) (by rw [Nat.pow_succ] at h; omega), bl_pos z, List.length_append]
      congr 4
      simp
      omega
theorem bit_count_ok {n : Nat} (h : n < 2 ^ 100) : M_bit_count [.int (n : Int)] = .ok (false, .int (bl n).length) := by
  obtain ⟨k, e⟩ := fuel_eq 100 (by decide)
  unfold M_bit_count S_bit_count
  rw [e]
  simp only [PM.callE, PM.runF, PM.initE, PM.seqS, PM.asgS, PM.tgS, PM.parS, PM.appS, PM.augS, PM.dropS, PM.retS, PM.retN, PM.retV, PM.ifS, PM.forS, PM.M.thenS, PM.M.bind, PM.M.lift, PM.ret, PM.cst, PM.var, PM.pvar, PM.pk, PM.bin, PM.asB, PM.truth, PM.tru, PM.tand, PM.tor, PM.tnot, PM.vand, PM.vor, PM.vnot, PM.iff, PM.sli, PM.ono, PM.oin, PM.acons, PM.anil, PM.cnil, PM.cval, PM.cvw, PM.lstE, PM.tupE, PM.blt, PM.isi, PM.una, PM.smE, PM.src, PM.rng1, PM.rng2, PM.skip, PM.brkS, PM.cntS, PM.tgN, PM.itemsD, PM.tyD, PM.Ty.sub, PM.addD, PM.addIA, PM.subD, PM.mulD, PM.mulID, PM.fdivD, PM.modD, PM.powD, PM.ltD, PM.leD, PM.gtD, PM.geD, PM.cmpD, PM.eqD, PM.neD, PM.ixD, PM.sliceD, PM.lenD, PM.intD, PM.strD, PM.listD, PM.tupD, PM.joinD, PM.rjustD, PM.negD, List.length_cons, List.length_nil, List.getElem?_cons_zero, List.getElem?_cons_succ, List.set_cons_zero, List.set_cons_succ, List.map_cons, List.map_nil, List.cons_append, List.nil_append, List.append_nil, List.replicate, List.length_map, List.length_append, if_true, if_false, ite_true, ite_false, reduceIte, Bool.false_eq_true, decide_eq_true_eq, Option.map_some, Option.map_none, Option.bind_some, Option.bind_none, Option.some.injEq, Option.join, List.isEmpty_cons, List.isEmpty_nil, List.all_cons, List.all_nil, PM.owned, PM.noLS, PM.noL, PM.noLs, Bool.or_true, Bool.true_or, Bool.or_false, Bool.false_or, Bool.and_true, Bool.true_and, Bool.and_false, Bool.false_and, Bool.not_true, Bool.not_false, List.isEmpty_map, PM.setS, PM.augIxS, Nat.zero_add, Nat.reduceAdd, Nat.reduceSub, Nat.reduceLT, Nat.reduceEqDiff, cnt_loop 100 k n 0 h, Int.zero_add]
theorem class_of_ok {n : Nat} (h : n < 2 ^ 100) : M_class_of [.int (n : Int)] = .ok (false, .int (bl n).length) := by
  unfold M_class_of S_class_of callE
  simp only [PM.callE, PM.runF, PM.initE, PM.seqS, PM.asgS, PM.tgS, PM.parS, PM.appS, PM.augS, PM.dropS, PM.retS, PM.retN, PM.retV, PM.ifS, PM.forS, PM.M.thenS, PM.M.bind, PM.M.lift, PM.ret, PM.cst, PM.var, PM.pvar, PM.pk, PM.bin, PM.asB, PM.truth, PM.tru, PM.tand, PM.tor, PM.tnot, PM.vand, PM.vor, PM.vnot, PM.iff, PM.sli, PM.ono, PM.oin, PM.acons, PM.anil, PM.cnil, PM.cval, PM.cvw, PM.lstE, PM.tupE, PM.blt, PM.isi, PM.una, PM.smE, PM.src, PM.rng1, PM.rng2, PM.skip, PM.brkS, PM.cntS, PM.tgN, PM.itemsD, PM.tyD, PM.Ty.sub, PM.addD, PM.addIA, PM.subD, PM.mulD, PM.mulID, PM.fdivD, PM.modD, PM.powD, PM.ltD, PM.leD, PM.gtD, PM.geD, PM.cmpD, PM.eqD, PM.neD, PM.ixD, PM.sliceD, PM.lenD, PM.intD, PM.strD, PM.listD, PM.tupD, PM.joinD, PM.rjustD, PM.negD, List.length_cons, List.length_nil, List.getElem?_cons_zero, List.getElem?_cons_succ, List.set_cons_zero, List.set_cons_succ, List.map_cons, List.map_nil, List.cons_append, List.nil_append, List.append_nil, List.replicate, List.length_map, List.length_append, if_true, if_false, ite_true, ite_false, reduceIte, Bool.false_eq_true, decide_eq_true_eq, Option.map_some, Option.map_none, Option.bind_some, Option.bind_none, Option.some.injEq, Option.join, List.isEmpty_cons, List.isEmpty_nil, List.all_cons, List.all_nil, PM.owned, PM.noLS, PM.noL, PM.noLs, Bool.or_true, Bool.true_or, Bool.or_false, Bool.false_or, Bool.and_true, Bool.true_and, Bool.and_false, Bool.false_and, Bool.not_true, Bool.not_false, List.isEmpty_map, PM.setS, PM.augIxS, Nat.zero_add, Nat.reduceAdd, Nat.reduceSub, Nat.reduceLT, Nat.reduceEqDiff, bit_count_ok h]
theorem rest_bits_ok {n : Nat} (h : n < 2 ^ 100) : M_rest_bits [.int (n : Int)] = .ok (false, .str ((bl n).drop 1)) := by
  have hz : (bl n).length ≤ sizeLine := by have := bl_len 100 n h; rw [sl_eq]; omega
  unfold M_rest_bits S_rest_bits callE
  simp only [PM.callE, PM.runF, PM.initE, PM.seqS, PM.asgS, PM.tgS, PM.parS, PM.appS, PM.augS, PM.dropS, PM.retS, PM.retN, PM.retV, PM.ifS, PM.forS, PM.M.thenS, PM.M.bind, PM.M.lift, PM.ret, PM.cst, PM.var, PM.pvar, PM.pk, PM.bin, PM.asB, PM.truth, PM.tru, PM.tand, PM.tor, PM.tnot, PM.vand, PM.vor, PM.vnot, PM.iff, PM.sli, PM.ono, PM.oin, PM.acons, PM.anil, PM.cnil, PM.cval, PM.cvw, PM.lstE, PM.tupE, PM.blt, PM.isi, PM.una, PM.smE, PM.src, PM.rng1, PM.rng2, PM.skip, PM.brkS, PM.cntS, PM.tgN, PM.itemsD, PM.tyD, PM.Ty.sub, PM.addD, PM.addIA, PM.subD, PM.mulD, PM.mulID, PM.fdivD, PM.modD, PM.powD, PM.ltD, PM.leD, PM.gtD, PM.geD, PM.cmpD, PM.eqD, PM.neD, PM.ixD, PM.sliceD, PM.lenD, PM.intD, PM.strD, PM.listD, PM.tupD, PM.joinD, PM.rjustD, PM.negD, List.length_cons, List.length_nil, List.getElem?_cons_zero, List.getElem?_cons_succ, List.set_cons_zero, List.set_cons_succ, List.map_cons, List.map_nil, List.cons_append, List.nil_append, List.append_nil, List.replicate, List.length_map, List.length_append, if_true, if_false, ite_true, ite_false, reduceIte, Bool.false_eq_true, decide_eq_true_eq, Option.map_some, Option.map_none, Option.bind_some, Option.bind_none, Option.some.injEq, Option.join, List.isEmpty_cons, List.isEmpty_nil, List.all_cons, List.all_nil, PM.owned, PM.noLS, PM.noL, PM.noLs, Bool.or_true, Bool.true_or, Bool.or_false, Bool.false_or, Bool.and_true, Bool.true_and, Bool.and_false, Bool.false_and, Bool.not_true, Bool.not_false, List.isEmpty_map, PM.setS, PM.augIxS, Nat.zero_add, Nat.reduceAdd, Nat.reduceSub, Nat.reduceLT, Nat.reduceEqDiff, bit_text_ok h, cut1, hz]
theorem wide_text_ok {n : Nat} (h : n < 2 ^ 100) {s : Int} (h1 : 0 ≤ s) (h2 : s ≤ 1000) : M_wide_text [.int (n : Int), .int s] = .ok (false, .str (List.replicate (s.toNat - (bl n).length) 48 ++ bl n)) := by
  unfold M_wide_text S_wide_text callE
  simp only [PM.callE, PM.runF, PM.initE, PM.seqS, PM.asgS, PM.tgS, PM.parS, PM.appS, PM.augS, PM.dropS, PM.retS, PM.retN, PM.retV, PM.ifS, PM.forS, PM.M.thenS, PM.M.bind, PM.M.lift, PM.ret, PM.cst, PM.var, PM.pvar, PM.pk, PM.bin, PM.asB, PM.truth, PM.tru, PM.tand, PM.tor, PM.tnot, PM.vand, PM.vor, PM.vnot, PM.iff, PM.sli, PM.ono, PM.oin, PM.acons, PM.anil, PM.cnil, PM.cval, PM.cvw, PM.lstE, PM.tupE, PM.blt, PM.isi, PM.una, PM.smE, PM.src, PM.rng1, PM.rng2, PM.skip, PM.brkS, PM.cntS, PM.tgN, PM.itemsD, PM.tyD, PM.Ty.sub, PM.addD, PM.addIA, PM.subD, PM.mulD, PM.mulID, PM.fdivD, PM.modD, PM.powD, PM.ltD, PM.leD, PM.gtD, PM.geD, PM.cmpD, PM.eqD, PM.neD, PM.ixD, PM.sliceD, PM.lenD, PM.intD, PM.strD, PM.listD, PM.tupD, PM.joinD, PM.rjustD, PM.negD, List.length_cons, List.length_nil, List.getElem?_cons_zero, List.getElem?_cons_succ, List.set_cons_zero, List.set_cons_succ, List.map_cons, List.map_nil, List.cons_append, List.nil_append, List.append_nil, List.replicate, List.length_map, List.length_append, if_true, if_false, ite_true, ite_false, reduceIte, Bool.false_eq_true, decide_eq_true_eq, Option.map_some, Option.map_none, Option.bind_some, Option.bind_none, Option.some.injEq, Option.join, List.isEmpty_cons, List.isEmpty_nil, List.all_cons, List.all_nil, PM.owned, PM.noLS, PM.noL, PM.noLs, Bool.or_true, Bool.true_or, Bool.or_false, Bool.false_or, Bool.and_true, Bool.true_and, Bool.and_false, Bool.false_and, Bool.not_true, Bool.not_false, List.isEmpty_map, PM.setS, PM.augIxS, Nat.zero_add, Nat.reduceAdd, Nat.reduceSub, Nat.reduceLT, Nat.reduceEqDiff, bit_text_ok h, show -1048576 ≤ s ∧ s ≤ 16777216 by omega, and_self]
/-- the text of n, drawn by the law -/
theorem txt_loop : ∀ (ds : List D) (m n : Nat) (acc : List Nat) (a2 : Option Slot), n < 2 ^ m → m ≤ ds.length → m + acc.length ≤ 1000 →
    ∃ o, forF (tgN 2) L1__law_text ds [some (false, .int (n : Int)), some (false, .str acc), a2] = o ∧ (o = .rt (false, .str (bl n ++ acc)) ∨ ∃ a2, o = .nx [some (false, .int 0), some (false, .str (bl n ++ acc)), a2])
  | [], m, n, acc, a2, h, hm, _ => by
    have : m = 0 := by simpa using hm
    subst this
    have : n = 0 := by simpa using h
    subst this
    exact ⟨_, rfl, .inr ⟨a2, by rw [for_nil, bl_zero]; rfl⟩⟩
  | d :: ds, m, n, acc, a2, h, hm, hl => by
    by_cases z : n = 0
    · subst z
      refine ⟨_, rfl, .inl ?_⟩
      rw [for_rt (ρ1 := [some (false, .int ((0 : Nat) : Int)), some (false, .str acc), some (false, d)]) (s := (false, .str acc)) rfl (by simp only [L1__law_text, PM.callE, PM.runF, PM.initE, PM.seqS, PM.asgS, PM.tgS, PM.parS, PM.appS, PM.augS, PM.dropS, PM.retS, PM.retN, PM.retV, PM.ifS, PM.forS, PM.M.thenS, PM.M.bind, PM.M.lift, PM.ret, PM.cst, PM.var, PM.pvar, PM.pk, PM.bin, PM.asB, PM.truth, PM.tru, PM.tand, PM.tor, PM.tnot, PM.vand, PM.vor, PM.vnot, PM.iff, PM.sli, PM.ono, PM.oin, PM.acons, PM.anil, PM.cnil, PM.cval, PM.cvw, PM.lstE, PM.tupE, PM.blt, PM.isi, PM.una, PM.smE, PM.src, PM.rng1, PM.rng2, PM.skip, PM.brkS, PM.cntS, PM.tgN, PM.itemsD, PM.tyD, PM.Ty.sub, PM.addD, PM.addIA, PM.subD, PM.mulD, PM.mulID, PM.fdivD, PM.modD, PM.powD, PM.ltD, PM.leD, PM.gtD, PM.geD, PM.cmpD, PM.eqD, PM.neD, PM.ixD, PM.sliceD, PM.lenD, PM.intD, PM.strD, PM.listD, PM.tupD, PM.joinD, PM.rjustD, PM.negD, List.length_cons, List.length_nil, List.getElem?_cons_zero, List.getElem?_cons_succ, List.set_cons_zero, List.set_cons_succ, List.map_cons, List.map_nil, List.cons_append, List.nil_append, List.append_nil, List.replicate, List.length_map, List.length_append, if_true, if_false, ite_true, ite_false, reduceIte, Bool.false_eq_true, decide_eq_true_eq, Option.map_some, Option.map_none, Option.bind_some, Option.bind_none, Option.some.injEq, Option.join, List.isEmpty_cons, List.isEmpty_nil, List.all_cons, List.all_nil, PM.owned, PM.noLS, PM.noL, PM.noLs, Bool.or_true, Bool.true_or, Bool.or_false, Bool.false_or, Bool.and_true, Bool.true_and, Bool.and_false, Bool.false_and, Bool.not_true, Bool.not_false, List.isEmpty_map, PM.setS, PM.augIxS, Nat.zero_add, Nat.reduceAdd, Nat.reduceSub, Nat.reduceLT, Nat.reduceEqDiff, eqv_int, show decide ((((0 : Nat) : Int)) = 0) = true by decide]), bl_zero]
      rfl
    · cases m with
      | zero => exact absurd (by simpa using h) z
      | succ m =>
        have hz : decide ((n : Int) = 0) = false := decide_eq_false (by omega)
        have hm2 : (n : Int) % 2 = ((n % 2 : Nat) : Int) := by omega
        have hd : (n : Int) / 2 = ((n / 2 : Nat) : Int) := by omega
        have hsz : 1 + acc.length ≤ sizeLine := by rw [sl_eq]; omega
        have hat : atI [48, 49] ((n % 2 : Nat) : Int) = some (48 + n % 2) := by
          rcases Nat.mod_two_eq_zero_or_one n with e | e <;> rw [e] <;> rfl
        obtain ⟨o, h1, h2⟩ := txt_loop ds m (n / 2) ((48 + n % 2) :: acc) (some (false, d)) (by rw [Nat.pow_succ] at h; omega) (by simpa using hm) (by simp; omega)
        refine ⟨o, ?_, ?_⟩
        · rw [← h1]
          refine for_go (ρ1 := [some (false, .int (n : Int)), some (false, .str acc), some (false, d)]) rfl ?_
          simp only [L1__law_text, PM.callE, PM.runF, PM.initE, PM.seqS, PM.asgS, PM.tgS, PM.parS, PM.appS, PM.augS, PM.dropS, PM.retS, PM.retN, PM.retV, PM.ifS, PM.forS, PM.M.thenS, PM.M.bind, PM.M.lift, PM.ret, PM.cst, PM.var, PM.pvar, PM.pk, PM.bin, PM.asB, PM.truth, PM.tru, PM.tand, PM.tor, PM.tnot, PM.vand, PM.vor, PM.vnot, PM.iff, PM.sli, PM.ono, PM.oin, PM.acons, PM.anil, PM.cnil, PM.cval, PM.cvw, PM.lstE, PM.tupE, PM.blt, PM.isi, PM.una, PM.smE, PM.src, PM.rng1, PM.rng2, PM.skip, PM.brkS, PM.cntS, PM.tgN, PM.itemsD, PM.tyD, PM.Ty.sub, PM.addD, PM.addIA, PM.subD, PM.mulD, PM.mulID, PM.fdivD, PM.modD, PM.powD, PM.ltD, PM.leD, PM.gtD, PM.geD, PM.cmpD, PM.eqD, PM.neD, PM.ixD, PM.sliceD, PM.lenD, PM.intD, PM.strD, PM.listD, PM.tupD, PM.joinD, PM.rjustD, PM.negD, List.length_cons, List.length_nil, List.getElem?_cons_zero, List.getElem?_cons_succ, List.set_cons_zero, List.set_cons_succ, List.map_cons, List.map_nil, List.cons_append, List.nil_append, List.append_nil, List.replicate, List.length_map, List.length_append, if_true, if_false, ite_true, ite_false, reduceIte, Bool.false_eq_true, decide_eq_true_eq, Option.map_some, Option.map_none, Option.bind_some, Option.bind_none, Option.some.injEq, Option.join, List.isEmpty_cons, List.isEmpty_nil, List.all_cons, List.all_nil, PM.owned, PM.noLS, PM.noL, PM.noLs, Bool.or_true, Bool.true_or, Bool.or_false, Bool.false_or, Bool.and_true, Bool.true_and, Bool.and_false, Bool.false_and, Bool.not_true, Bool.not_false, List.isEmpty_map, PM.setS, PM.augIxS, Nat.zero_add, Nat.reduceAdd, Nat.reduceSub, Nat.reduceLT, Nat.reduceEqDiff, eqv_int, hz, hm2, hat, show 2 ≤ sizeLine by decide, hsz, hd, two_log, and_self, show (0 : Int) < 2 by decide]
        · rw [bl_pos z]
          simpa using h2
theorem law_text_ok {n : Nat} (h : n < 2 ^ 70) : M__law_text [.int (n : Int)] = .ok (false, .str (bl n)) := by
  unfold M__law_text S__law_text
  obtain ⟨o, h1, h2⟩ := txt_loop (intsR 0 70) 70 n [] none h (by decide) (by decide)
  have e70 : (70 : Int).toNat = 70 := rfl
  simp only [PM.callE, PM.runF, PM.initE, PM.seqS, PM.asgS, PM.tgS, PM.parS, PM.appS, PM.augS, PM.dropS, PM.retS, PM.retN, PM.retV, PM.ifS, PM.forS, PM.M.thenS, PM.M.bind, PM.M.lift, PM.ret, PM.cst, PM.var, PM.pvar, PM.pk, PM.bin, PM.asB, PM.truth, PM.tru, PM.tand, PM.tor, PM.tnot, PM.vand, PM.vor, PM.vnot, PM.iff, PM.sli, PM.ono, PM.oin, PM.acons, PM.anil, PM.cnil, PM.cval, PM.cvw, PM.lstE, PM.tupE, PM.blt, PM.isi, PM.una, PM.smE, PM.src, PM.rng1, PM.rng2, PM.skip, PM.brkS, PM.cntS, PM.tgN, PM.itemsD, PM.tyD, PM.Ty.sub, PM.addD, PM.addIA, PM.subD, PM.mulD, PM.mulID, PM.fdivD, PM.modD, PM.powD, PM.ltD, PM.leD, PM.gtD, PM.geD, PM.cmpD, PM.eqD, PM.neD, PM.ixD, PM.sliceD, PM.lenD, PM.intD, PM.strD, PM.listD, PM.tupD, PM.joinD, PM.rjustD, PM.negD, List.length_cons, List.length_nil, List.getElem?_cons_zero, List.getElem?_cons_succ, List.set_cons_zero, List.set_cons_succ, List.map_cons, List.map_nil, List.cons_append, List.nil_append, List.append_nil, List.replicate, List.length_map, List.length_append, if_true, if_false, ite_true, ite_false, reduceIte, Bool.false_eq_true, decide_eq_true_eq, Option.map_some, Option.map_none, Option.bind_some, Option.bind_none, Option.some.injEq, Option.join, List.isEmpty_cons, List.isEmpty_nil, List.all_cons, List.all_nil, PM.owned, PM.noLS, PM.noL, PM.noLs, Bool.or_true, Bool.true_or, Bool.or_false, Bool.false_or, Bool.and_true, Bool.true_and, Bool.and_false, Bool.false_and, Bool.not_true, Bool.not_false, List.isEmpty_map, PM.setS, PM.augIxS, Nat.zero_add, Nat.reduceAdd, Nat.reduceSub, Nat.reduceLT, Nat.reduceEqDiff, show -(2 ^ 62) ≤ (70 : Int) ∧ (70 : Int) < 2 ^ 62 by decide, e70, and_self]
  rw [h1]
  rcases h2 with rfl | ⟨a2, rfl⟩
  · simp only [PM.callE, PM.runF, PM.initE, PM.seqS, PM.asgS, PM.tgS, PM.parS, PM.appS, PM.augS, PM.dropS, PM.retS, PM.retN, PM.retV, PM.ifS, PM.forS, PM.M.thenS, PM.M.bind, PM.M.lift, PM.ret, PM.cst, PM.var, PM.pvar, PM.pk, PM.bin, PM.asB, PM.truth, PM.tru, PM.tand, PM.tor, PM.tnot, PM.vand, PM.vor, PM.vnot, PM.iff, PM.sli, PM.ono, PM.oin, PM.acons, PM.anil, PM.cnil, PM.cval, PM.cvw, PM.lstE, PM.tupE, PM.blt, PM.isi, PM.una, PM.smE, PM.src, PM.rng1, PM.rng2, PM.skip, PM.brkS, PM.cntS, PM.tgN, PM.itemsD, PM.tyD, PM.Ty.sub, PM.addD, PM.addIA, PM.subD, PM.mulD, PM.mulID, PM.fdivD, PM.modD, PM.powD, PM.ltD, PM.leD, PM.gtD, PM.geD, PM.cmpD, PM.eqD, PM.neD, PM.ixD, PM.sliceD, PM.lenD, PM.intD, PM.strD, PM.listD, PM.tupD, PM.joinD, PM.rjustD, PM.negD, List.length_cons, List.length_nil, List.getElem?_cons_zero, List.getElem?_cons_succ, List.set_cons_zero, List.set_cons_succ, List.map_cons, List.map_nil, List.cons_append, List.nil_append, List.append_nil, List.replicate, List.length_map, List.length_append, if_true, if_false, ite_true, ite_false, reduceIte, Bool.false_eq_true, decide_eq_true_eq, Option.map_some, Option.map_none, Option.bind_some, Option.bind_none, Option.some.injEq, Option.join, List.isEmpty_cons, List.isEmpty_nil, List.all_cons, List.all_nil, PM.owned, PM.noLS, PM.noL, PM.noLs, Bool.or_true, Bool.true_or, Bool.or_false, Bool.false_or, Bool.and_true, Bool.true_and, Bool.and_false, Bool.false_and, Bool.not_true, Bool.not_false, List.isEmpty_map, PM.setS, PM.augIxS, Nat.zero_add, Nat.reduceAdd, Nat.reduceSub, Nat.reduceLT, Nat.reduceEqDiff]
  · simp only [PM.callE, PM.runF, PM.initE, PM.seqS, PM.asgS, PM.tgS, PM.parS, PM.appS, PM.augS, PM.dropS, PM.retS, PM.retN, PM.retV, PM.ifS, PM.forS, PM.M.thenS, PM.M.bind, PM.M.lift, PM.ret, PM.cst, PM.var, PM.pvar, PM.pk, PM.bin, PM.asB, PM.truth, PM.tru, PM.tand, PM.tor, PM.tnot, PM.vand, PM.vor, PM.vnot, PM.iff, PM.sli, PM.ono, PM.oin, PM.acons, PM.anil, PM.cnil, PM.cval, PM.cvw, PM.lstE, PM.tupE, PM.blt, PM.isi, PM.una, PM.smE, PM.src, PM.rng1, PM.rng2, PM.skip, PM.brkS, PM.cntS, PM.tgN, PM.itemsD, PM.tyD, PM.Ty.sub, PM.addD, PM.addIA, PM.subD, PM.mulD, PM.mulID, PM.fdivD, PM.modD, PM.powD, PM.ltD, PM.leD, PM.gtD, PM.geD, PM.cmpD, PM.eqD, PM.neD, PM.ixD, PM.sliceD, PM.lenD, PM.intD, PM.strD, PM.listD, PM.tupD, PM.joinD, PM.rjustD, PM.negD, List.length_cons, List.length_nil, List.getElem?_cons_zero, List.getElem?_cons_succ, List.set_cons_zero, List.set_cons_succ, List.map_cons, List.map_nil, List.cons_append, List.nil_append, List.append_nil, List.replicate, List.length_map, List.length_append, if_true, if_false, ite_true, ite_false, reduceIte, Bool.false_eq_true, decide_eq_true_eq, Option.map_some, Option.map_none, Option.bind_some, Option.bind_none, Option.some.injEq, Option.join, List.isEmpty_cons, List.isEmpty_nil, List.all_cons, List.all_nil, PM.owned, PM.noLS, PM.noL, PM.noLs, Bool.or_true, Bool.true_or, Bool.or_false, Bool.false_or, Bool.and_true, Bool.true_and, Bool.and_false, Bool.false_and, Bool.not_true, Bool.not_false, List.isEmpty_map, PM.setS, PM.augIxS, Nat.zero_add, Nat.reduceAdd, Nat.reduceSub, Nat.reduceLT, Nat.reduceEqDiff]

theorem is_text_ok {s : List Nat} (h : okS s = true) : M__law_is_text [.str s, .str s] = .ok (false, .bl true) := by
  unfold M__law_is_text S__law_is_text
  simp only [PM.callE, PM.runF, PM.initE, PM.seqS, PM.asgS, PM.tgS, PM.parS, PM.appS, PM.augS, PM.dropS, PM.retS, PM.retN, PM.retV, PM.ifS, PM.forS, PM.M.thenS, PM.M.bind, PM.M.lift, PM.ret, PM.cst, PM.var, PM.pvar, PM.pk, PM.bin, PM.asB, PM.truth, PM.tru, PM.tand, PM.tor, PM.tnot, PM.vand, PM.vor, PM.vnot, PM.iff, PM.sli, PM.ono, PM.oin, PM.acons, PM.anil, PM.cnil, PM.cval, PM.cvw, PM.lstE, PM.tupE, PM.blt, PM.isi, PM.una, PM.smE, PM.src, PM.rng1, PM.rng2, PM.skip, PM.brkS, PM.cntS, PM.tgN, PM.itemsD, PM.tyD, PM.Ty.sub, PM.addD, PM.addIA, PM.subD, PM.mulD, PM.mulID, PM.fdivD, PM.modD, PM.powD, PM.ltD, PM.leD, PM.gtD, PM.geD, PM.cmpD, PM.eqD, PM.neD, PM.ixD, PM.sliceD, PM.lenD, PM.intD, PM.strD, PM.listD, PM.tupD, PM.joinD, PM.rjustD, PM.negD, List.length_cons, List.length_nil, List.getElem?_cons_zero, List.getElem?_cons_succ, List.set_cons_zero, List.set_cons_succ, List.map_cons, List.map_nil, List.cons_append, List.nil_append, List.append_nil, List.replicate, List.length_map, List.length_append, if_true, if_false, ite_true, ite_false, reduceIte, Bool.false_eq_true, decide_eq_true_eq, Option.map_some, Option.map_none, Option.bind_some, Option.bind_none, Option.some.injEq, Option.join, List.isEmpty_cons, List.isEmpty_nil, List.all_cons, List.all_nil, PM.owned, PM.noLS, PM.noL, PM.noLs, Bool.or_true, Bool.true_or, Bool.or_false, Bool.false_or, Bool.and_true, Bool.true_and, Bool.and_false, Bool.false_and, Bool.not_true, Bool.not_false, List.isEmpty_map, PM.setS, PM.augIxS, Nat.zero_add, Nat.reduceAdd, Nat.reduceSub, Nat.reduceLT, Nat.reduceEqDiff, eqv_str h h, decide_true]
theorem whole_ok (i : Int) : M__law_whole [.int i] = .ok (false, .bl true) := rfl
theorem is_number_ok (i : Int) : M__law_is_number [.int i, .int i] = .ok (false, .bl true) := by
  unfold M__law_is_number S__law_is_number
  simp only [PM.callE, PM.runF, PM.initE, PM.seqS, PM.asgS, PM.tgS, PM.parS, PM.appS, PM.augS, PM.dropS, PM.retS, PM.retN, PM.retV, PM.ifS, PM.forS, PM.M.thenS, PM.M.bind, PM.M.lift, PM.ret, PM.cst, PM.var, PM.pvar, PM.pk, PM.bin, PM.asB, PM.truth, PM.tru, PM.tand, PM.tor, PM.tnot, PM.vand, PM.vor, PM.vnot, PM.iff, PM.sli, PM.ono, PM.oin, PM.acons, PM.anil, PM.cnil, PM.cval, PM.cvw, PM.lstE, PM.tupE, PM.blt, PM.isi, PM.una, PM.smE, PM.src, PM.rng1, PM.rng2, PM.skip, PM.brkS, PM.cntS, PM.tgN, PM.itemsD, PM.tyD, PM.Ty.sub, PM.addD, PM.addIA, PM.subD, PM.mulD, PM.mulID, PM.fdivD, PM.modD, PM.powD, PM.ltD, PM.leD, PM.gtD, PM.geD, PM.cmpD, PM.eqD, PM.neD, PM.ixD, PM.sliceD, PM.lenD, PM.intD, PM.strD, PM.listD, PM.tupD, PM.joinD, PM.rjustD, PM.negD, List.length_cons, List.length_nil, List.getElem?_cons_zero, List.getElem?_cons_succ, List.set_cons_zero, List.set_cons_succ, List.map_cons, List.map_nil, List.cons_append, List.nil_append, List.append_nil, List.replicate, List.length_map, List.length_append, if_true, if_false, ite_true, ite_false, reduceIte, Bool.false_eq_true, decide_eq_true_eq, Option.map_some, Option.map_none, Option.bind_some, Option.bind_none, Option.some.injEq, Option.join, List.isEmpty_cons, List.isEmpty_nil, List.all_cons, List.all_nil, PM.owned, PM.noLS, PM.noL, PM.noLs, Bool.or_true, Bool.true_or, Bool.or_false, Bool.false_or, Bool.and_true, Bool.true_and, Bool.and_false, Bool.false_and, Bool.not_true, Bool.not_false, List.isEmpty_map, PM.setS, PM.augIxS, Nat.zero_add, Nat.reduceAdd, Nat.reduceSub, Nat.reduceLT, Nat.reduceEqDiff, whole_ok, eqv_int, decide_true]
/-! ### a text's number -/
def isB (s : List Nat) : Prop := ∀ c ∈ s, c = 48 ∨ c = 49
def nb (a : Nat) (s : List Nat) : Nat := s.foldl (fun a c => 2 * a + (if c = 49 then 1 else 0)) a
theorem isB_okS {s : List Nat} (h : isB s) : okS s = true := by
  unfold okS
  rw [List.all_eq_true]
  intro c hc
  rcases h c hc with e | e <;> rw [e] <;> decide
theorem bl_isB {n : Nat} (h : n < 2 ^ 100) : isB (bl n) := bl_chr 100 n h
theorem mul2 (a : Int) : mulOk 2 a = true := mulOk_l (by decide) (by decide)
theorem mul2r (a : Int) : mulOk a 2 = true := mulOk_r (by decide) (by decide)
theorem eqv_sign {c : Nat} (h : c = 48 ∨ c = 49) : eqvD (.str [c]) (.str [49]) = some (decide (c = 49)) := by
  rw [eqv_str (by rcases h with e | e <;> rw [e] <;> decide) (by decide)]
  rcases h with e | e <;> subst e <;> decide
theorem nb_loop : ∀ (s : List Nat) (a : Nat) (x y : Option Slot), isB s → ∃ y', forF (tgN 2) L1_number_of_bits (signs s) [x, some (false, .int (a : Int)), y] = .nx [x, some (false, .int (nb a s : Nat)), y']
  | [], a, x, y, _ => ⟨y, rfl⟩
  | c :: s, a, x, y, h => by
    obtain ⟨y', e⟩ := nb_loop s (2 * a + (if c = 49 then 1 else 0)) x (some (false, .str [c])) fun d hd => h d (List.mem_cons_of_mem _ hd)
    refine ⟨y', ?_⟩
    have hc := h c List.mem_cons_self
    show forF _ _ (D.str [c] :: signs s) _ = _
    rw [for_go (ρ1 := [x, some (false, .int (a : Int)), some (false, .str [c])]) (ρ2 := [x, some (false, .int ((2 * a + (if c = 49 then 1 else 0) : Nat) : Int)), some (false, .str [c])]) rfl ?_, e]
    · rfl
    · simp only [L1_number_of_bits, PM.callE, PM.runF, PM.initE, PM.seqS, PM.asgS, PM.tgS, PM.parS, PM.appS, PM.augS, PM.dropS, PM.retS, PM.retN, PM.retV, PM.ifS, PM.forS, PM.M.thenS, PM.M.bind, PM.M.lift, PM.ret, PM.cst, PM.var, PM.pvar, PM.pk, PM.bin, PM.asB, PM.truth, PM.tru, PM.tand, PM.tor, PM.tnot, PM.vand, PM.vor, PM.vnot, PM.iff, PM.sli, PM.ono, PM.oin, PM.acons, PM.anil, PM.cnil, PM.cval, PM.cvw, PM.lstE, PM.tupE, PM.blt, PM.isi, PM.una, PM.smE, PM.src, PM.rng1, PM.rng2, PM.skip, PM.brkS, PM.cntS, PM.tgN, PM.itemsD, PM.tyD, PM.Ty.sub, PM.addD, PM.addIA, PM.subD, PM.mulD, PM.mulID, PM.fdivD, PM.modD, PM.powD, PM.ltD, PM.leD, PM.gtD, PM.geD, PM.cmpD, PM.eqD, PM.neD, PM.ixD, PM.sliceD, PM.lenD, PM.intD, PM.strD, PM.listD, PM.tupD, PM.joinD, PM.rjustD, PM.negD, List.length_cons, List.length_nil, List.getElem?_cons_zero, List.getElem?_cons_succ, List.set_cons_zero, List.set_cons_succ, List.map_cons, List.map_nil, List.cons_append, List.nil_append, List.append_nil, List.replicate, List.length_map, List.length_append, if_true, if_false, ite_true, ite_false, reduceIte, Bool.false_eq_true, decide_eq_true_eq, Option.map_some, Option.map_none, Option.bind_some, Option.bind_none, Option.some.injEq, Option.join, List.isEmpty_cons, List.isEmpty_nil, List.all_cons, List.all_nil, PM.owned, PM.noLS, PM.noL, PM.noLs, Bool.or_true, Bool.true_or, Bool.or_false, Bool.false_or, Bool.and_true, Bool.true_and, Bool.and_false, Bool.false_and, Bool.not_true, Bool.not_false, List.isEmpty_map, PM.setS, PM.augIxS, Nat.zero_add, Nat.reduceAdd, Nat.reduceSub, Nat.reduceLT, Nat.reduceEqDiff, eqv_sign hc, mul2]
      rcases hc with e | e <;> subst e <;> simp <;> omega
theorem nb_loop2 : ∀ (s : List Nat) (a : Nat) (x y : Option Slot), isB s → ∃ y', forF (tgN 2) L1__law_worth (signs s) [x, some (false, .int (a : Int)), y] = .nx [x, some (false, .int (nb a s : Nat)), y'] := nb_loop
theorem number_of_bits_ok {s : List Nat} (h : isB s) : M_number_of_bits [.str s] = .ok (false, .int (nb 0 s : Nat)) := by
  unfold M_number_of_bits S_number_of_bits
  obtain ⟨y', e⟩ := nb_loop s 0 (some (false, .str s)) none h
  have e : forF (tgN 2) L1_number_of_bits (signs s) [some (false, .str s), some (false, .int 0), none] = _ := e
  simp only [PM.callE, PM.runF, PM.initE, PM.seqS, PM.asgS, PM.tgS, PM.parS, PM.appS, PM.augS, PM.dropS, PM.retS, PM.retN, PM.retV, PM.ifS, PM.forS, PM.M.thenS, PM.M.bind, PM.M.lift, PM.ret, PM.cst, PM.var, PM.pvar, PM.pk, PM.bin, PM.asB, PM.truth, PM.tru, PM.tand, PM.tor, PM.tnot, PM.vand, PM.vor, PM.vnot, PM.iff, PM.sli, PM.ono, PM.oin, PM.acons, PM.anil, PM.cnil, PM.cval, PM.cvw, PM.lstE, PM.tupE, PM.blt, PM.isi, PM.una, PM.smE, PM.src, PM.rng1, PM.rng2, PM.skip, PM.brkS, PM.cntS, PM.tgN, PM.itemsD, PM.tyD, PM.Ty.sub, PM.addD, PM.addIA, PM.subD, PM.mulD, PM.mulID, PM.fdivD, PM.modD, PM.powD, PM.ltD, PM.leD, PM.gtD, PM.geD, PM.cmpD, PM.eqD, PM.neD, PM.ixD, PM.sliceD, PM.lenD, PM.intD, PM.strD, PM.listD, PM.tupD, PM.joinD, PM.rjustD, PM.negD, List.length_cons, List.length_nil, List.getElem?_cons_zero, List.getElem?_cons_succ, List.set_cons_zero, List.set_cons_succ, List.map_cons, List.map_nil, List.cons_append, List.nil_append, List.append_nil, List.replicate, List.length_map, List.length_append, if_true, if_false, ite_true, ite_false, reduceIte, Bool.false_eq_true, decide_eq_true_eq, Option.map_some, Option.map_none, Option.bind_some, Option.bind_none, Option.some.injEq, Option.join, List.isEmpty_cons, List.isEmpty_nil, List.all_cons, List.all_nil, PM.owned, PM.noLS, PM.noL, PM.noLs, Bool.or_true, Bool.true_or, Bool.or_false, Bool.false_or, Bool.and_true, Bool.true_and, Bool.and_false, Bool.false_and, Bool.not_true, Bool.not_false, List.isEmpty_map, PM.setS, PM.augIxS, Nat.zero_add, Nat.reduceAdd, Nat.reduceSub, Nat.reduceLT, Nat.reduceEqDiff, e]
theorem worth_ok {s : List Nat} (h : isB s) : M__law_worth [.str s] = .ok (false, .int (nb 0 s : Nat)) := by
  unfold M__law_worth S__law_worth
  obtain ⟨y', e⟩ := nb_loop2 s 0 (some (false, .str s)) none h
  have e : forF (tgN 2) L1__law_worth (signs s) [some (false, .str s), some (false, .int 0), none] = _ := e
  simp only [PM.callE, PM.runF, PM.initE, PM.seqS, PM.asgS, PM.tgS, PM.parS, PM.appS, PM.augS, PM.dropS, PM.retS, PM.retN, PM.retV, PM.ifS, PM.forS, PM.M.thenS, PM.M.bind, PM.M.lift, PM.ret, PM.cst, PM.var, PM.pvar, PM.pk, PM.bin, PM.asB, PM.truth, PM.tru, PM.tand, PM.tor, PM.tnot, PM.vand, PM.vor, PM.vnot, PM.iff, PM.sli, PM.ono, PM.oin, PM.acons, PM.anil, PM.cnil, PM.cval, PM.cvw, PM.lstE, PM.tupE, PM.blt, PM.isi, PM.una, PM.smE, PM.src, PM.rng1, PM.rng2, PM.skip, PM.brkS, PM.cntS, PM.tgN, PM.itemsD, PM.tyD, PM.Ty.sub, PM.addD, PM.addIA, PM.subD, PM.mulD, PM.mulID, PM.fdivD, PM.modD, PM.powD, PM.ltD, PM.leD, PM.gtD, PM.geD, PM.cmpD, PM.eqD, PM.neD, PM.ixD, PM.sliceD, PM.lenD, PM.intD, PM.strD, PM.listD, PM.tupD, PM.joinD, PM.rjustD, PM.negD, List.length_cons, List.length_nil, List.getElem?_cons_zero, List.getElem?_cons_succ, List.set_cons_zero, List.set_cons_succ, List.map_cons, List.map_nil, List.cons_append, List.nil_append, List.append_nil, List.replicate, List.length_map, List.length_append, if_true, if_false, ite_true, ite_false, reduceIte, Bool.false_eq_true, decide_eq_true_eq, Option.map_some, Option.map_none, Option.bind_some, Option.bind_none, Option.some.injEq, Option.join, List.isEmpty_cons, List.isEmpty_nil, List.all_cons, List.all_nil, PM.owned, PM.noLS, PM.noL, PM.noLs, Bool.or_true, Bool.true_or, Bool.or_false, Bool.false_or, Bool.and_true, Bool.true_and, Bool.and_false, Bool.false_and, Bool.not_true, Bool.not_false, List.isEmpty_map, PM.setS, PM.augIxS, Nat.zero_add, Nat.reduceAdd, Nat.reduceSub, Nat.reduceLT, Nat.reduceEqDiff, e]
theorem nb_snoc (a c : Nat) (s : List Nat) : nb a (s ++ [c]) = 2 * nb a s + (if c = 49 then 1 else 0) := by
  unfold nb
  rw [List.foldl_append]
  rfl
theorem nb_bl : ∀ (m n : Nat), n < 2 ^ m → nb 0 (bl n) = n
  | 0, n, h => by
    have : n = 0 := by simpa using h
    subst this
    rw [bl_zero]; rfl
  | m + 1, n, h => by
    by_cases z : n = 0
    · subst z; rw [bl_zero]; rfl
    · rw [bl_pos z, nb_snoc, nb_bl m (n / 2) (by rw [Nat.pow_succ] at h; omega)]
      split <;> omega
theorem nb_zeros : ∀ (k : Nat) (s : List Nat), nb 0 (List.replicate k 48 ++ s) = nb 0 s
  | 0, s => rfl
  | k + 1, s => by
    rw [List.replicate_succ, List.cons_append, ← nb_zeros k s]
    rfl
theorem isB_rep (k : Nat) {s : List Nat} (h : isB s) : isB (List.replicate k 48 ++ s) := fun c hc => by
  rcases List.mem_append.mp hc with hc | hc
  · exact .inl (List.eq_of_mem_replicate hc)
  · exact h c hc
theorem bl_nb : ∀ (m : Nat) (s : List Nat), s.length = m → isB s → (bl (nb 0 s)).length ≤ m ∧ List.replicate (m - (bl (nb 0 s)).length) 48 ++ bl (nb 0 s) = s
  | 0, s, e, _ => by
    have : s = [] := List.length_eq_zero_iff.mp e
    subst this
    rw [show nb 0 [] = 0 from rfl, bl_zero]; simp
  | m + 1, s, e, h => by
    have hne : s ≠ [] := fun z => by rw [z] at e; cases e
    obtain ⟨t, c, rfl⟩ : ∃ t c, s = t ++ [c] := ⟨s.dropLast, s.getLast hne, (List.dropLast_concat_getLast hne).symm⟩
    have ht : isB t := fun d hd => h d (List.mem_append_left _ hd)
    have hc := h c (List.mem_append_right _ List.mem_cons_self)
    obtain ⟨i1, i2⟩ := bl_nb m t (by simpa using e) ht
    rw [nb_snoc]
    have hb : (if c = 49 then 1 else 0) = c - 48 ∧ c - 48 < 2 ∧ 48 + (c - 48) = c := by
      rcases hc with rfl | rfl <;> simp
    rw [hb.1]
    by_cases z : 2 * nb 0 t + (c - 48) = 0
    · have z1 : nb 0 t = 0 := by omega
      have z2 : c = 48 := by omega
      rw [z, bl_zero]
      rw [z1, bl_zero] at i2
      subst z2
      refine ⟨by simp, ?_⟩
      rw [← i2]
      simp [List.replicate_succ']
    · rw [bl_pos z, show (2 * nb 0 t + (c - 48)) / 2 = nb 0 t by omega, show 48 + (2 * nb 0 t + (c - 48)) % 2 = c by omega]
      refine ⟨by simp; omega, ?_⟩
      rw [List.length_append, show m + 1 - ((bl (nb 0 t)).length + [c].length) = m - (bl (nb 0 t)).length by simp, ← List.append_assoc, i2]
theorem number_of_ok {s : List Nat} (h : isB s) {i : Int} (hi : 0 < i) (hl : s.length ≤ 1000) : M_number_of [.int i, .str s] = .ok (false, .int (nb 0 (49 :: s) : Nat)) := by
  unfold M_number_of S_number_of
  have hb : isB (49 :: s) := fun c hc => by
    rcases List.mem_cons.mp hc with e | hc
    · exact .inr e
    · exact h c hc
  simp only [PM.callE, PM.runF, PM.initE, PM.seqS, PM.asgS, PM.tgS, PM.parS, PM.appS, PM.augS, PM.dropS, PM.retS, PM.retN, PM.retV, PM.ifS, PM.forS, PM.M.thenS, PM.M.bind, PM.M.lift, PM.ret, PM.cst, PM.var, PM.pvar, PM.pk, PM.bin, PM.asB, PM.truth, PM.tru, PM.tand, PM.tor, PM.tnot, PM.vand, PM.vor, PM.vnot, PM.iff, PM.sli, PM.ono, PM.oin, PM.acons, PM.anil, PM.cnil, PM.cval, PM.cvw, PM.lstE, PM.tupE, PM.blt, PM.isi, PM.una, PM.smE, PM.src, PM.rng1, PM.rng2, PM.skip, PM.brkS, PM.cntS, PM.tgN, PM.itemsD, PM.tyD, PM.Ty.sub, PM.addD, PM.addIA, PM.subD, PM.mulD, PM.mulID, PM.fdivD, PM.modD, PM.powD, PM.ltD, PM.leD, PM.gtD, PM.geD, PM.cmpD, PM.eqD, PM.neD, PM.ixD, PM.sliceD, PM.lenD, PM.intD, PM.strD, PM.listD, PM.tupD, PM.joinD, PM.rjustD, PM.negD, List.length_cons, List.length_nil, List.getElem?_cons_zero, List.getElem?_cons_succ, List.set_cons_zero, List.set_cons_succ, List.map_cons, List.map_nil, List.cons_append, List.nil_append, List.append_nil, List.replicate, List.length_map, List.length_append, if_true, if_false, ite_true, ite_false, reduceIte, Bool.false_eq_true, decide_eq_true_eq, Option.map_some, Option.map_none, Option.bind_some, Option.bind_none, Option.some.injEq, Option.join, List.isEmpty_cons, List.isEmpty_nil, List.all_cons, List.all_nil, PM.owned, PM.noLS, PM.noL, PM.noLs, Bool.or_true, Bool.true_or, Bool.or_false, Bool.false_or, Bool.and_true, Bool.true_and, Bool.and_false, Bool.false_and, Bool.not_true, Bool.not_false, List.isEmpty_map, PM.setS, PM.augIxS, Nat.zero_add, Nat.reduceAdd, Nat.reduceSub, Nat.reduceLT, Nat.reduceEqDiff, decide_eq_true hi, show 1 + s.length ≤ sizeLine by rw [sl_eq]; omega, Nat.zero_add, number_of_bits_ok hb]
theorem number_of_0 {s : List Nat} : M_number_of [.int 0, .str s] = .ok (false, .int 0) := rfl

/-! ### powers, numbers drawn -/
theorem pow_loop : ∀ (ds : List D) (p : Nat) (x y : Option Slot), ∃ y', forF (tgN 2) L1__law_power ds [x, some (false, .int (p : Int)), y] = .nx [x, some (false, .int ((p * 2 ^ ds.length : Nat) : Int)), y']
  | [], p, x, y => ⟨y, by simp [for_nil]⟩
  | d :: ds, p, x, y => by
    obtain ⟨y', e⟩ := pow_loop ds (p * 2) x (some (false, d))
    refine ⟨y', ?_⟩
    rw [for_go (ρ1 := [x, some (false, .int (p : Int)), some (false, d)]) (ρ2 := [x, some (false, .int ((p * 2 : Nat) : Int)), some (false, d)]) rfl (by simp only [L1__law_power, PM.callE, PM.runF, PM.initE, PM.seqS, PM.asgS, PM.tgS, PM.parS, PM.appS, PM.augS, PM.dropS, PM.retS, PM.retN, PM.retV, PM.ifS, PM.forS, PM.M.thenS, PM.M.bind, PM.M.lift, PM.ret, PM.cst, PM.var, PM.pvar, PM.pk, PM.bin, PM.asB, PM.truth, PM.tru, PM.tand, PM.tor, PM.tnot, PM.vand, PM.vor, PM.vnot, PM.iff, PM.sli, PM.ono, PM.oin, PM.acons, PM.anil, PM.cnil, PM.cval, PM.cvw, PM.lstE, PM.tupE, PM.blt, PM.isi, PM.una, PM.smE, PM.src, PM.rng1, PM.rng2, PM.skip, PM.brkS, PM.cntS, PM.tgN, PM.itemsD, PM.tyD, PM.Ty.sub, PM.addD, PM.addIA, PM.subD, PM.mulD, PM.mulID, PM.fdivD, PM.modD, PM.powD, PM.ltD, PM.leD, PM.gtD, PM.geD, PM.cmpD, PM.eqD, PM.neD, PM.ixD, PM.sliceD, PM.lenD, PM.intD, PM.strD, PM.listD, PM.tupD, PM.joinD, PM.rjustD, PM.negD, List.length_cons, List.length_nil, List.getElem?_cons_zero, List.getElem?_cons_succ, List.set_cons_zero, List.set_cons_succ, List.map_cons, List.map_nil, List.cons_append, List.nil_append, List.append_nil, List.replicate, List.length_map, List.length_append, if_true, if_false, ite_true, ite_false, reduceIte, Bool.false_eq_true, decide_eq_true_eq, Option.map_some, Option.map_none, Option.bind_some, Option.bind_none, Option.some.injEq, Option.join, List.isEmpty_cons, List.isEmpty_nil, List.all_cons, List.all_nil, PM.owned, PM.noLS, PM.noL, PM.noLs, Bool.or_true, Bool.true_or, Bool.or_false, Bool.false_or, Bool.and_true, Bool.true_and, Bool.and_false, Bool.false_and, Bool.not_true, Bool.not_false, List.isEmpty_map, PM.setS, PM.augIxS, Nat.zero_add, Nat.reduceAdd, Nat.reduceSub, Nat.reduceLT, Nat.reduceEqDiff, mul2r]; rfl), e, List.length_cons, Nat.pow_succ]
    congr 5
    rw [Nat.mul_assoc, Nat.mul_comm 2]
theorem power_ok {k : Int} (h0 : 0 ≤ k) (h1 : k ≤ 1000) : M__law_power [.int k] = .ok (false, .int ((2 ^ k.toNat : Nat) : Int)) := by
  unfold M__law_power S__law_power
  obtain ⟨y', e⟩ := pow_loop (intsR 0 k.toNat) 1 (some (false, .int k)) none
  have hl : (intsR 0 k.toNat).length = k.toNat := by unfold intsR; simp
  have e : forF (tgN 2) L1__law_power (intsR 0 k.toNat) [some (false, .int k), some (false, .int 1), none] = _ := e
  simp only [PM.callE, PM.runF, PM.initE, PM.seqS, PM.asgS, PM.tgS, PM.parS, PM.appS, PM.augS, PM.dropS, PM.retS, PM.retN, PM.retV, PM.ifS, PM.forS, PM.M.thenS, PM.M.bind, PM.M.lift, PM.ret, PM.cst, PM.var, PM.pvar, PM.pk, PM.bin, PM.asB, PM.truth, PM.tru, PM.tand, PM.tor, PM.tnot, PM.vand, PM.vor, PM.vnot, PM.iff, PM.sli, PM.ono, PM.oin, PM.acons, PM.anil, PM.cnil, PM.cval, PM.cvw, PM.lstE, PM.tupE, PM.blt, PM.isi, PM.una, PM.smE, PM.src, PM.rng1, PM.rng2, PM.skip, PM.brkS, PM.cntS, PM.tgN, PM.itemsD, PM.tyD, PM.Ty.sub, PM.addD, PM.addIA, PM.subD, PM.mulD, PM.mulID, PM.fdivD, PM.modD, PM.powD, PM.ltD, PM.leD, PM.gtD, PM.geD, PM.cmpD, PM.eqD, PM.neD, PM.ixD, PM.sliceD, PM.lenD, PM.intD, PM.strD, PM.listD, PM.tupD, PM.joinD, PM.rjustD, PM.negD, List.length_cons, List.length_nil, List.getElem?_cons_zero, List.getElem?_cons_succ, List.set_cons_zero, List.set_cons_succ, List.map_cons, List.map_nil, List.cons_append, List.nil_append, List.append_nil, List.replicate, List.length_map, List.length_append, if_true, if_false, ite_true, ite_false, reduceIte, Bool.false_eq_true, decide_eq_true_eq, Option.map_some, Option.map_none, Option.bind_some, Option.bind_none, Option.some.injEq, Option.join, List.isEmpty_cons, List.isEmpty_nil, List.all_cons, List.all_nil, PM.owned, PM.noLS, PM.noL, PM.noLs, Bool.or_true, Bool.true_or, Bool.or_false, Bool.false_or, Bool.and_true, Bool.true_and, Bool.and_false, Bool.false_and, Bool.not_true, Bool.not_false, List.isEmpty_map, PM.setS, PM.augIxS, Nat.zero_add, Nat.reduceAdd, Nat.reduceSub, Nat.reduceLT, Nat.reduceEqDiff, show -(2 ^ 62) ≤ k ∧ k < 2 ^ 62 by omega, and_self, e, hl, Nat.one_mul]
/-- the numbers that the law draws from -/
structure Nums (l : List Int) : Prop where
  len : l.length = 60
  rng : ∀ x ∈ l, 0 ≤ x ∧ x < 1009
theorem Nums.at {l : List Int} (h : Nums l) {i : Int} (h0 : 0 ≤ i) (h1 : i < 60) : ∃ x, atI (l.map D.int) i = some (.int x) ∧ 0 ≤ x ∧ x < 1009 := by
  have hi : i.toNat < l.length := by rw [h.len]; omega
  refine ⟨l[i.toNat], ?_, h.rng _ (List.getElem_mem hi)⟩
  rw [atI_int h0 (by rw [List.length_map, h.len]; omega), List.getElem?_map, List.getElem?_eq_getElem hi]
  rfl
theorem nums_loop : ∀ (ds : List D) (cell : Int) (acc : List Int) (x1 : Int) (x0 x2 x5 x6 : Option Slot), (∀ d ∈ ds, ∃ k : Int, d = .int k ∧ 0 ≤ k ∧ k < 1000) → 0 ≤ cell → 0 ≤ x1 → x1 < 1000 → acc.length + ds.length ≤ 1000 →
    ∃ cell' l x5' x6', forF (tgN 5) L1__law_numbers ds [x0, some (false, .int x1), x2, some (false, .int cell), some (true, .lst (acc.map D.int)), x5, x6] =
      .nx [x0, some (false, .int x1), x2, some (false, .int cell'), some (true, .lst ((acc ++ l).map D.int)), x5', x6'] ∧ l.length = ds.length ∧ ∀ x ∈ l, 0 ≤ x ∧ x < 1009
  | [], cell, acc, x1, x0, x2, x5, x6, _, _, _, _, _ => ⟨cell, [], x5, x6, by rw [for_nil, List.append_nil], rfl, by simp⟩
  | d :: ds, cell, acc, x1, x0, x2, x5, x6, hd, hc, h1, h2, hl => by
    obtain ⟨k, rfl, k0, k1⟩ := hd d List.mem_cons_self
    have hd' : ∀ d ∈ ds, ∃ k : Int, d = .int k ∧ 0 ≤ k ∧ k < 1000 := fun d h => hd d (List.mem_cons_of_mem _ h)
    have hsz : (acc.map D.int).length < sizeLine := by rw [sl_eq, List.length_map]; rw [List.length_cons] at hl; omega
    have hpw : (0 : Int) ≤ 18 ∧ (18 : Int) ≤ 1000000 ∧ (10 : Int).natAbs < 2 ^ 64 := by decide
    have hpv : (10 : Int) ^ (18 : Int).toNat = 1000000000000000000 := by decide
    have mk : ∀ (c' y : Int) (x6' : Option Slot), 0 ≤ c' → 0 ≤ y → y < 1009 → L1__law_numbers [x0, some (false, .int x1), x2, some (false, .int cell), some (true, .lst (acc.map D.int)), some (false, .int k), x6] =
        .nx [x0, some (false, .int x1), x2, some (false, .int c'), some (true, .lst ((acc ++ [y]).map D.int)), some (false, .int k), x6'] →
        ∃ cell' l x5' x6', forF (tgN 5) L1__law_numbers (.int k :: ds) [x0, some (false, .int x1), x2, some (false, .int cell), some (true, .lst (acc.map D.int)), x5, x6] =
      .nx [x0, some (false, .int x1), x2, some (false, .int cell'), some (true, .lst ((acc ++ l).map D.int)), x5', x6'] ∧ l.length = (D.int k :: ds).length ∧ ∀ x ∈ l, 0 ≤ x ∧ x < 1009 := fun c' y x6' hc' hy hy2 hb => by
      obtain ⟨cell', l, x5', x6'', e, e2, e3⟩ := nums_loop ds c' (acc ++ [y]) x1 x0 x2 (some (false, .int k)) x6' hd' hc' h1 h2 (by simp at hl ⊢; omega)
      refine ⟨cell', y :: l, x5', x6'', ?_, by rw [List.length_cons, List.length_cons, e2], fun x hx => ?_⟩
      · rw [for_go (ρ1 := [x0, some (false, .int x1), x2, some (false, .int cell), some (true, .lst (acc.map D.int)), some (false, .int k), x6]) rfl hb, e, List.append_assoc]
        rfl
      · rcases List.mem_cons.mp hx with rfl | hx
        · exact ⟨hy, hy2⟩
        · exact e3 x hx
    by_cases hb : (1000000000000000000 : Int) ≤ cell
    · refine mk (cell / 1009) (cell % 1009) x6 (by omega) (by omega) (by omega) ?_
      have hsz2 : acc.length < sizeLine := by simpa using hsz
      simp only [L1__law_numbers, PM.callE, PM.runF, PM.initE, PM.seqS, PM.asgS, PM.tgS, PM.parS, PM.appS, PM.augS, PM.dropS, PM.retS, PM.retN, PM.retV, PM.ifS, PM.forS, PM.M.thenS, PM.M.bind, PM.M.lift, PM.ret, PM.cst, PM.var, PM.pvar, PM.pk, PM.bin, PM.asB, PM.truth, PM.tru, PM.tand, PM.tor, PM.tnot, PM.vand, PM.vor, PM.vnot, PM.iff, PM.sli, PM.ono, PM.oin, PM.acons, PM.anil, PM.cnil, PM.cval, PM.cvw, PM.lstE, PM.tupE, PM.blt, PM.isi, PM.una, PM.smE, PM.src, PM.rng1, PM.rng2, PM.skip, PM.brkS, PM.cntS, PM.tgN, PM.itemsD, PM.tyD, PM.Ty.sub, PM.addD, PM.addIA, PM.subD, PM.mulD, PM.mulID, PM.fdivD, PM.modD, PM.powD, PM.ltD, PM.leD, PM.gtD, PM.geD, PM.cmpD, PM.eqD, PM.neD, PM.ixD, PM.sliceD, PM.lenD, PM.intD, PM.strD, PM.listD, PM.tupD, PM.joinD, PM.rjustD, PM.negD, List.length_cons, List.length_nil, List.getElem?_cons_zero, List.getElem?_cons_succ, List.set_cons_zero, List.set_cons_succ, List.map_cons, List.map_nil, List.cons_append, List.nil_append, List.append_nil, List.replicate, List.length_map, List.length_append, if_true, if_false, ite_true, ite_false, reduceIte, Bool.false_eq_true, decide_eq_true_eq, Option.map_some, Option.map_none, Option.bind_some, Option.bind_none, Option.some.injEq, Option.join, List.isEmpty_cons, List.isEmpty_nil, List.all_cons, List.all_nil, PM.owned, PM.noLS, PM.noL, PM.noLs, Bool.or_true, Bool.true_or, Bool.or_false, Bool.false_or, Bool.and_true, Bool.true_and, Bool.and_false, Bool.false_and, Bool.not_true, Bool.not_false, List.isEmpty_map, PM.setS, PM.augIxS, Nat.zero_add, Nat.reduceAdd, Nat.reduceSub, Nat.reduceLT, Nat.reduceEqDiff, hpw, hpv, decide_eq_true hb, show (0 : Int) < 1009 by decide, show (1009 : Int).natAbs.log2 < 9000 by decide, and_self, hsz2, List.map_append]
    · have hsz2 : acc.length < sizeLine := by simpa using hsz
      have m1 : mulOk cell 48271 = true := mulOk_r (by decide) (by decide)
      have m2 : mulOk (k + 1) 69621 = true := mulOk_r (by decide) (by decide)
      have m3 : mulOk x1 4001 = true := mulOk_r (by decide) (by decide)
      have m5 : mulOk 16807 (k + 3) = true := mulOk_l (by decide) (by decide)
      have p1 := Int.emod_nonneg (cell * 48271 + (k + 1) * 69621 + x1 * 4001) (show (2147483647 : Int) ≠ 0 by decide)
      have p2 := Int.emod_lt_of_pos (cell * 48271 + (k + 1) * 69621 + x1 * 4001) (show (0 : Int) < 2147483647 by decide)
      generalize hm : (cell * 48271 + (k + 1) * 69621 + x1 * 4001) % 2147483647 = mm at p1 p2
      have m4 : mulOk mm mm = true := mulOk_l (by omega) (by omega)
      have p3 := Int.emod_nonneg (mm * mm + 16807 * (k + 3)) (show (2147483629 : Int) ≠ 0 by decide)
      generalize hq : (mm * mm + 16807 * (k + 3)) % 2147483629 = qq at p3
      refine mk cell (qq / 7 % 1009) (some (false, .int qq)) hc (by omega) (by omega) ?_
      simp only [L1__law_numbers, PM.callE, PM.runF, PM.initE, PM.seqS, PM.asgS, PM.tgS, PM.parS, PM.appS, PM.augS, PM.dropS, PM.retS, PM.retN, PM.retV, PM.ifS, PM.forS, PM.M.thenS, PM.M.bind, PM.M.lift, PM.ret, PM.cst, PM.var, PM.pvar, PM.pk, PM.bin, PM.asB, PM.truth, PM.tru, PM.tand, PM.tor, PM.tnot, PM.vand, PM.vor, PM.vnot, PM.iff, PM.sli, PM.ono, PM.oin, PM.acons, PM.anil, PM.cnil, PM.cval, PM.cvw, PM.lstE, PM.tupE, PM.blt, PM.isi, PM.una, PM.smE, PM.src, PM.rng1, PM.rng2, PM.skip, PM.brkS, PM.cntS, PM.tgN, PM.itemsD, PM.tyD, PM.Ty.sub, PM.addD, PM.addIA, PM.subD, PM.mulD, PM.mulID, PM.fdivD, PM.modD, PM.powD, PM.ltD, PM.leD, PM.gtD, PM.geD, PM.cmpD, PM.eqD, PM.neD, PM.ixD, PM.sliceD, PM.lenD, PM.intD, PM.strD, PM.listD, PM.tupD, PM.joinD, PM.rjustD, PM.negD, List.length_cons, List.length_nil, List.getElem?_cons_zero, List.getElem?_cons_succ, List.set_cons_zero, List.set_cons_succ, List.map_cons, List.map_nil, List.cons_append, List.nil_append, List.append_nil, List.replicate, List.length_map, List.length_append, if_true, if_false, ite_true, ite_false, reduceIte, Bool.false_eq_true, decide_eq_true_eq, Option.map_some, Option.map_none, Option.bind_some, Option.bind_none, Option.some.injEq, Option.join, List.isEmpty_cons, List.isEmpty_nil, List.all_cons, List.all_nil, PM.owned, PM.noLS, PM.noL, PM.noLs, Bool.or_true, Bool.true_or, Bool.or_false, Bool.false_or, Bool.and_true, Bool.true_and, Bool.and_false, Bool.false_and, Bool.not_true, Bool.not_false, List.isEmpty_map, PM.setS, PM.augIxS, Nat.zero_add, Nat.reduceAdd, Nat.reduceSub, Nat.reduceLT, Nat.reduceEqDiff, hpw, hpv, decide_eq_false hb, m1, m2, m3, m5, hm, m4, hq, show (0 : Int) < 1009 by decide, show (0 : Int) < 2147483647 by decide, show (0 : Int) < 2147483629 by decide, show (0 : Int) < 7 by decide, show (7 : Int).natAbs.log2 < 9000 by decide, and_self, hsz2, List.map_append]
theorem intsR_in {n : Nat} (h : n ≤ 1000) : ∀ d ∈ intsR 0 n, ∃ k : Int, d = .int k ∧ 0 ≤ k ∧ k < 1000 := fun d hd => by
  unfold intsR at hd
  obtain ⟨i, hi, rfl⟩ := List.mem_map.mp hd
  have := List.mem_range.mp hi
  exact ⟨_, rfl, by omega, by omega⟩
theorem numbers_ok (ns : List Int) (hl : ns.length ≤ 63) {a : Int} (h0 : 0 ≤ a) (h1 : a < 1000) : ∃ l, Nums l ∧ M__law_numbers [scr ns, .int a, .int 60] = .ok (true, .lst (l.map D.int)) := by
  have hlen : (intsR 0 60).length = 60 := by unfold intsR; simp
  have fin : ∀ cell : Int, 0 ≤ cell → ∃ l cell' x5 x6, Nums l ∧ forF (tgN 5) L1__law_numbers (intsR 0 60) [some (false, .lst (ns.map D.int)), some (false, .int a), some (false, .int 60), some (false, .int cell), some (true, .lst []), none, none] =
      .nx [some (false, .lst (ns.map D.int)), some (false, .int a), some (false, .int 60), some (false, .int cell'), some (true, .lst (l.map D.int)), x5, x6] := fun cell hc => by
    obtain ⟨c', l, x5, x6, e, e2, e3⟩ := nums_loop (intsR 0 60) cell [] a (some (false, .lst (ns.map D.int))) (some (false, .int 60)) none none (intsR_in (by decide)) hc h0 h1 (by rw [hlen]; decide)
    exact ⟨l, c', x5, x6, ⟨by rw [e2, hlen], e3⟩, e⟩
  have e60 : (60 : Int).toNat = 60 := rfl
  unfold M__law_numbers S__law_numbers
  have m1 : mulOk 1000003 (a + 1) = true := mulOk_l (by decide) (by decide)
  by_cases hb : a < (ns.length : Int)
  · have hat : ∃ c, atI (ns.map D.int) a = some (.int c) := by
      have hi : a.toNat < ns.length := by omega
      refine ⟨ns[a.toNat], ?_⟩
      rw [atI_int h0 (by rw [List.length_map]; omega), List.getElem?_map, List.getElem?_eq_getElem hi]
      rfl
    obtain ⟨c, hat⟩ := hat
    by_cases hn : c < 0
    · obtain ⟨l, c', x5, x6, h, e⟩ := fin (1 - 2 * c) (by omega)
      refine ⟨l, h, ?_⟩
      simp only [PM.callE, PM.runF, PM.initE, PM.seqS, PM.asgS, PM.tgS, PM.parS, PM.appS, PM.augS, PM.dropS, PM.retS, PM.retN, PM.retV, PM.ifS, PM.forS, PM.M.thenS, PM.M.bind, PM.M.lift, PM.ret, PM.cst, PM.var, PM.pvar, PM.pk, PM.bin, PM.asB, PM.truth, PM.tru, PM.tand, PM.tor, PM.tnot, PM.vand, PM.vor, PM.vnot, PM.iff, PM.sli, PM.ono, PM.oin, PM.acons, PM.anil, PM.cnil, PM.cval, PM.cvw, PM.lstE, PM.tupE, PM.blt, PM.isi, PM.una, PM.smE, PM.src, PM.rng1, PM.rng2, PM.skip, PM.brkS, PM.cntS, PM.tgN, PM.itemsD, PM.tyD, PM.Ty.sub, PM.addD, PM.addIA, PM.subD, PM.mulD, PM.mulID, PM.fdivD, PM.modD, PM.powD, PM.ltD, PM.leD, PM.gtD, PM.geD, PM.cmpD, PM.eqD, PM.neD, PM.ixD, PM.sliceD, PM.lenD, PM.intD, PM.strD, PM.listD, PM.tupD, PM.joinD, PM.rjustD, PM.negD, List.length_cons, List.length_nil, List.getElem?_cons_zero, List.getElem?_cons_succ, List.set_cons_zero, List.set_cons_succ, List.map_cons, List.map_nil, List.cons_append, List.nil_append, List.append_nil, List.replicate, List.length_map, List.length_append, if_true, if_false, ite_true, ite_false, reduceIte, Bool.false_eq_true, decide_eq_true_eq, Option.map_some, Option.map_none, Option.bind_some, Option.bind_none, Option.some.injEq, Option.join, List.isEmpty_cons, List.isEmpty_nil, List.all_cons, List.all_nil, PM.owned, PM.noLS, PM.noL, PM.noLs, Bool.or_true, Bool.true_or, Bool.or_false, Bool.false_or, Bool.and_true, Bool.true_and, Bool.and_false, Bool.false_and, Bool.not_true, Bool.not_false, List.isEmpty_map, PM.setS, PM.augIxS, Nat.zero_add, Nat.reduceAdd, Nat.reduceSub, Nat.reduceLT, Nat.reduceEqDiff, scr, m1, decide_eq_true hb, hat, decide_eq_true hn, mul2, show 0 ≤ sizeLine by decide, show -(2 ^ 62) ≤ (60 : Int) ∧ (60 : Int) < 2 ^ 62 by decide, e60, and_self, e]
    · obtain ⟨l, c', x5, x6, h, e⟩ := fin c (by omega)
      refine ⟨l, h, ?_⟩
      simp only [PM.callE, PM.runF, PM.initE, PM.seqS, PM.asgS, PM.tgS, PM.parS, PM.appS, PM.augS, PM.dropS, PM.retS, PM.retN, PM.retV, PM.ifS, PM.forS, PM.M.thenS, PM.M.bind, PM.M.lift, PM.ret, PM.cst, PM.var, PM.pvar, PM.pk, PM.bin, PM.asB, PM.truth, PM.tru, PM.tand, PM.tor, PM.tnot, PM.vand, PM.vor, PM.vnot, PM.iff, PM.sli, PM.ono, PM.oin, PM.acons, PM.anil, PM.cnil, PM.cval, PM.cvw, PM.lstE, PM.tupE, PM.blt, PM.isi, PM.una, PM.smE, PM.src, PM.rng1, PM.rng2, PM.skip, PM.brkS, PM.cntS, PM.tgN, PM.itemsD, PM.tyD, PM.Ty.sub, PM.addD, PM.addIA, PM.subD, PM.mulD, PM.mulID, PM.fdivD, PM.modD, PM.powD, PM.ltD, PM.leD, PM.gtD, PM.geD, PM.cmpD, PM.eqD, PM.neD, PM.ixD, PM.sliceD, PM.lenD, PM.intD, PM.strD, PM.listD, PM.tupD, PM.joinD, PM.rjustD, PM.negD, List.length_cons, List.length_nil, List.getElem?_cons_zero, List.getElem?_cons_succ, List.set_cons_zero, List.set_cons_succ, List.map_cons, List.map_nil, List.cons_append, List.nil_append, List.append_nil, List.replicate, List.length_map, List.length_append, if_true, if_false, ite_true, ite_false, reduceIte, Bool.false_eq_true, decide_eq_true_eq, Option.map_some, Option.map_none, Option.bind_some, Option.bind_none, Option.some.injEq, Option.join, List.isEmpty_cons, List.isEmpty_nil, List.all_cons, List.all_nil, PM.owned, PM.noLS, PM.noL, PM.noLs, Bool.or_true, Bool.true_or, Bool.or_false, Bool.false_or, Bool.and_true, Bool.true_and, Bool.and_false, Bool.false_and, Bool.not_true, Bool.not_false, List.isEmpty_map, PM.setS, PM.augIxS, Nat.zero_add, Nat.reduceAdd, Nat.reduceSub, Nat.reduceLT, Nat.reduceEqDiff, scr, m1, decide_eq_true hb, hat, decide_eq_false hn, show 0 ≤ sizeLine by decide, show -(2 ^ 62) ≤ (60 : Int) ∧ (60 : Int) < 2 ^ 62 by decide, e60, and_self, e]
  · obtain ⟨l, c', x5, x6, h, e⟩ := fin (1000003 * (a + 1)) (by omega)
    refine ⟨l, h, ?_⟩
    simp only [PM.callE, PM.runF, PM.initE, PM.seqS, PM.asgS, PM.tgS, PM.parS, PM.appS, PM.augS, PM.dropS, PM.retS, PM.retN, PM.retV, PM.ifS, PM.forS, PM.M.thenS, PM.M.bind, PM.M.lift, PM.ret, PM.cst, PM.var, PM.pvar, PM.pk, PM.bin, PM.asB, PM.truth, PM.tru, PM.tand, PM.tor, PM.tnot, PM.vand, PM.vor, PM.vnot, PM.iff, PM.sli, PM.ono, PM.oin, PM.acons, PM.anil, PM.cnil, PM.cval, PM.cvw, PM.lstE, PM.tupE, PM.blt, PM.isi, PM.una, PM.smE, PM.src, PM.rng1, PM.rng2, PM.skip, PM.brkS, PM.cntS, PM.tgN, PM.itemsD, PM.tyD, PM.Ty.sub, PM.addD, PM.addIA, PM.subD, PM.mulD, PM.mulID, PM.fdivD, PM.modD, PM.powD, PM.ltD, PM.leD, PM.gtD, PM.geD, PM.cmpD, PM.eqD, PM.neD, PM.ixD, PM.sliceD, PM.lenD, PM.intD, PM.strD, PM.listD, PM.tupD, PM.joinD, PM.rjustD, PM.negD, List.length_cons, List.length_nil, List.getElem?_cons_zero, List.getElem?_cons_succ, List.set_cons_zero, List.set_cons_succ, List.map_cons, List.map_nil, List.cons_append, List.nil_append, List.append_nil, List.replicate, List.length_map, List.length_append, if_true, if_false, ite_true, ite_false, reduceIte, Bool.false_eq_true, decide_eq_true_eq, Option.map_some, Option.map_none, Option.bind_some, Option.bind_none, Option.some.injEq, Option.join, List.isEmpty_cons, List.isEmpty_nil, List.all_cons, List.all_nil, PM.owned, PM.noLS, PM.noL, PM.noLs, Bool.or_true, Bool.true_or, Bool.or_false, Bool.false_or, Bool.and_true, Bool.true_and, Bool.and_false, Bool.false_and, Bool.not_true, Bool.not_false, List.isEmpty_map, PM.setS, PM.augIxS, Nat.zero_add, Nat.reduceAdd, Nat.reduceSub, Nat.reduceLT, Nat.reduceEqDiff, scr, m1, decide_eq_false hb, decide_eq_false (show ¬ 1000003 * (a + 1) < 0 by omega), show 0 ≤ sizeLine by decide, show -(2 ^ 62) ≤ (60 : Int) ∧ (60 : Int) < 2 ^ 62 by decide, e60, and_self, e]
theorem drawn_loop (l : List Int) (h : Nums l) : ∀ (ds : List D) (n a : Int) (x2 x4 : Option Slot), (∀ d ∈ ds, ∃ k : Int, d = .int k ∧ 0 ≤ k ∧ k < 7) → 0 ≤ n → 0 ≤ a → a < 50 →
    ∃ n' x4', forF (tgN 4) L1__law_drawn ds [some (false, .lst (l.map D.int)), some (false, .int a), x2, some (false, .int n), x4] = .nx [some (false, .lst (l.map D.int)), some (false, .int a), x2, some (false, .int n'), x4'] ∧ 0 ≤ n'
  | [], n, a, x2, x4, _, hn, _, _ => ⟨n, x4, rfl, hn⟩
  | d :: ds, n, a, x2, x4, hd, hn, h0, h1 => by
    obtain ⟨k, rfl, k0, k1⟩ := hd d List.mem_cons_self
    obtain ⟨y, ey, y0, y1⟩ := h.at (i := a + k) (by omega) (by omega)
    obtain ⟨n', x4', e, hn'⟩ := drawn_loop l h ds (n * 1009 + y) a x2 (some (false, .int k)) (fun d h => hd d (List.mem_cons_of_mem _ h)) (by omega) h0 h1
    refine ⟨n', x4', ?_, hn'⟩
    have m1 : mulOk n 1009 = true := mulOk_r (by decide) (by decide)
    rw [for_go (ρ1 := [some (false, .lst (l.map D.int)), some (false, .int a), x2, some (false, .int n), some (false, .int k)]) (ρ2 := [some (false, .lst (l.map D.int)), some (false, .int a), x2, some (false, .int (n * 1009 + y)), some (false, .int k)]) rfl (by simp only [L1__law_drawn, PM.callE, PM.runF, PM.initE, PM.seqS, PM.asgS, PM.tgS, PM.parS, PM.appS, PM.augS, PM.dropS, PM.retS, PM.retN, PM.retV, PM.ifS, PM.forS, PM.M.thenS, PM.M.bind, PM.M.lift, PM.ret, PM.cst, PM.var, PM.pvar, PM.pk, PM.bin, PM.asB, PM.truth, PM.tru, PM.tand, PM.tor, PM.tnot, PM.vand, PM.vor, PM.vnot, PM.iff, PM.sli, PM.ono, PM.oin, PM.acons, PM.anil, PM.cnil, PM.cval, PM.cvw, PM.lstE, PM.tupE, PM.blt, PM.isi, PM.una, PM.smE, PM.src, PM.rng1, PM.rng2, PM.skip, PM.brkS, PM.cntS, PM.tgN, PM.itemsD, PM.tyD, PM.Ty.sub, PM.addD, PM.addIA, PM.subD, PM.mulD, PM.mulID, PM.fdivD, PM.modD, PM.powD, PM.ltD, PM.leD, PM.gtD, PM.geD, PM.cmpD, PM.eqD, PM.neD, PM.ixD, PM.sliceD, PM.lenD, PM.intD, PM.strD, PM.listD, PM.tupD, PM.joinD, PM.rjustD, PM.negD, List.length_cons, List.length_nil, List.getElem?_cons_zero, List.getElem?_cons_succ, List.set_cons_zero, List.set_cons_succ, List.map_cons, List.map_nil, List.cons_append, List.nil_append, List.append_nil, List.replicate, List.length_map, List.length_append, if_true, if_false, ite_true, ite_false, reduceIte, Bool.false_eq_true, decide_eq_true_eq, Option.map_some, Option.map_none, Option.bind_some, Option.bind_none, Option.some.injEq, Option.join, List.isEmpty_cons, List.isEmpty_nil, List.all_cons, List.all_nil, PM.owned, PM.noLS, PM.noL, PM.noLs, Bool.or_true, Bool.true_or, Bool.or_false, Bool.false_or, Bool.and_true, Bool.true_and, Bool.and_false, Bool.false_and, Bool.not_true, Bool.not_false, List.isEmpty_map, PM.setS, PM.augIxS, Nat.zero_add, Nat.reduceAdd, Nat.reduceSub, Nat.reduceLT, Nat.reduceEqDiff, m1, ey]), e]
theorem drawn_ok {l : List Int} (h : Nums l) {a s : Int} (h0 : 0 ≤ a) (h1 : a < 50) (s0 : 0 ≤ s) (s1 : s ≤ 60) : ∃ n : Nat, n < 2 ^ 60 ∧ M__law_drawn [.lst (l.map D.int), .int a, .int s] = .ok (false, .int (n : Int)) := by
  have h7 : ∀ d ∈ intsR 0 7, ∃ k : Int, d = .int k ∧ 0 ≤ k ∧ k < 7 := fun d hd => by
    unfold intsR at hd
    obtain ⟨i, hi, rfl⟩ := List.mem_map.mp hd
    have := List.mem_range.mp hi
    exact ⟨_, rfl, by omega, by omega⟩
  obtain ⟨n, x4, e, hn⟩ := drawn_loop l h (intsR 0 7) 0 a (some (false, .int s)) none h7 (by decide) h0 h1
  have hp : (0 : Int) < ((2 ^ s.toNat : Nat) : Int) := by
    have := Nat.two_pow_pos s.toNat
    omega
  refine ⟨(n % ((2 ^ s.toNat : Nat) : Int)).toNat, ?_, ?_⟩
  · have u := Int.emod_lt_of_pos n hp
    have v : 2 ^ s.toNat ≤ 2 ^ 60 := Nat.pow_le_pow_right (by decide) (by omega)
    have w := Int.emod_nonneg n (show ((2 ^ s.toNat : Nat) : Int) ≠ 0 by omega)
    omega
  · unfold M__law_drawn S__law_drawn
    have e7 : (7 : Int).toNat = 7 := rfl
    have w := Int.emod_nonneg n (show ((2 ^ s.toNat : Nat) : Int) ≠ 0 by omega)
    simp only [PM.callE, PM.runF, PM.initE, PM.seqS, PM.asgS, PM.tgS, PM.parS, PM.appS, PM.augS, PM.dropS, PM.retS, PM.retN, PM.retV, PM.ifS, PM.forS, PM.M.thenS, PM.M.bind, PM.M.lift, PM.ret, PM.cst, PM.var, PM.pvar, PM.pk, PM.bin, PM.asB, PM.truth, PM.tru, PM.tand, PM.tor, PM.tnot, PM.vand, PM.vor, PM.vnot, PM.iff, PM.sli, PM.ono, PM.oin, PM.acons, PM.anil, PM.cnil, PM.cval, PM.cvw, PM.lstE, PM.tupE, PM.blt, PM.isi, PM.una, PM.smE, PM.src, PM.rng1, PM.rng2, PM.skip, PM.brkS, PM.cntS, PM.tgN, PM.itemsD, PM.tyD, PM.Ty.sub, PM.addD, PM.addIA, PM.subD, PM.mulD, PM.mulID, PM.fdivD, PM.modD, PM.powD, PM.ltD, PM.leD, PM.gtD, PM.geD, PM.cmpD, PM.eqD, PM.neD, PM.ixD, PM.sliceD, PM.lenD, PM.intD, PM.strD, PM.listD, PM.tupD, PM.joinD, PM.rjustD, PM.negD, List.length_cons, List.length_nil, List.getElem?_cons_zero, List.getElem?_cons_succ, List.set_cons_zero, List.set_cons_succ, List.map_cons, List.map_nil, List.cons_append, List.nil_append, List.append_nil, List.replicate, List.length_map, List.length_append, if_true, if_false, ite_true, ite_false, reduceIte, Bool.false_eq_true, decide_eq_true_eq, Option.map_some, Option.map_none, Option.bind_some, Option.bind_none, Option.some.injEq, Option.join, List.isEmpty_cons, List.isEmpty_nil, List.all_cons, List.all_nil, PM.owned, PM.noLS, PM.noL, PM.noLs, Bool.or_true, Bool.true_or, Bool.or_false, Bool.false_or, Bool.and_true, Bool.true_and, Bool.and_false, Bool.false_and, Bool.not_true, Bool.not_false, List.isEmpty_map, PM.setS, PM.augIxS, Nat.zero_add, Nat.reduceAdd, Nat.reduceSub, Nat.reduceLT, Nat.reduceEqDiff, e7, show -(2 ^ 62) ≤ (7 : Int) ∧ (7 : Int) < 2 ^ 62 by decide, and_self, e, power_ok s0 (show s ≤ 1000 by omega), hp, Int.toNat_of_nonneg w]

/-! ### one number -/
theorem rep48 (k : Nat) : strRep [48] k = List.replicate k 48 := by
  unfold strRep
  induction k with
  | zero => rfl
  | succ k ih => rw [List.replicate_succ, List.flatten_cons, ih]; rfl
theorem one_ok {n : Nat} (h : n < 2 ^ 70) {more : Int} (m0 : 0 ≤ more) (m1 : more ≤ 100) : M__law_one [.int (n : Int), .int more] = .ok (false, .bl true) := by
  have h100 : n < 2 ^ 100 := Nat.lt_of_lt_of_le h (by decide)
  have hl : (bl n).length ≤ 100 := bl_len 100 n h100
  have hz : (bl n).length ≤ sizeLine := by rw [sl_eq]; omega
  have hs : (0 : Int) ≤ ((bl n).length : Nat) := by omega
  have hs2 : (((bl n).length : Nat) : Int) ≤ 1000 := by omega
  have hw0 := wide_text_ok h100 hs hs2
  have e0 : List.replicate ((((bl n).length : Nat) : Int).toNat - (bl n).length) 48 ++ bl n = bl n := by simp
  rw [e0] at hw0
  have hw1 := wide_text_ok h100 (s := ((bl n).length : Int) + more) (by omega) (by omega)
  have e1 : (((bl n).length : Int) + more).toNat - (bl n).length = more.toNat := by omega
  rw [e1] at hw1
  have hB : isB (bl n) := bl_isB h100
  have hB1 : isB ((bl n).drop 1) := fun c hc => hB c (List.mem_of_mem_drop hc)
  have hBm : isB (List.replicate more.toNat 48 ++ bl n) := isB_rep _ hB
  have hrep : [48].length * more.toNat ≤ sizeLine ∧ -(2 ^ 62) ≤ more ∧ more < 2 ^ 62 := by rw [sl_eq]; simp; omega
  have hrep' : 1 * more.toNat ≤ sizeLine ∧ -(2 ^ 62) ≤ more ∧ more < 2 ^ 62 := by rw [sl_eq]; omega
  have hadd : (List.replicate more.toNat 48).length + (bl n).length ≤ sizeLine := by rw [sl_eq]; simp; omega
  have hnum : nb 0 (List.replicate more.toNat 48 ++ bl n) = n := by rw [nb_zeros, nb_bl 100 n h100]
  have hnb := number_of_bits_ok hBm
  rw [hnum] at hnb
  unfold M__law_one S__law_one T1__law_one T2__law_one T3__law_one T4__law_one T5__law_one T6__law_one T7__law_one
  by_cases hbig : (20 : Int) < ((bl n).length : Nat)
  · simp only [PM.callE, PM.runF, PM.initE, PM.seqS, PM.asgS, PM.tgS, PM.parS, PM.appS, PM.augS, PM.dropS, PM.retS, PM.retN, PM.retV, PM.ifS, PM.forS, PM.M.thenS, PM.M.bind, PM.M.lift, PM.ret, PM.cst, PM.var, PM.pvar, PM.pk, PM.bin, PM.asB, PM.truth, PM.tru, PM.tand, PM.tor, PM.tnot, PM.vand, PM.vor, PM.vnot, PM.iff, PM.sli, PM.ono, PM.oin, PM.acons, PM.anil, PM.cnil, PM.cval, PM.cvw, PM.lstE, PM.tupE, PM.blt, PM.isi, PM.una, PM.smE, PM.src, PM.rng1, PM.rng2, PM.skip, PM.brkS, PM.cntS, PM.tgN, PM.itemsD, PM.tyD, PM.Ty.sub, PM.addD, PM.addIA, PM.subD, PM.mulD, PM.mulID, PM.fdivD, PM.modD, PM.powD, PM.ltD, PM.leD, PM.gtD, PM.geD, PM.cmpD, PM.eqD, PM.neD, PM.ixD, PM.sliceD, PM.lenD, PM.intD, PM.strD, PM.listD, PM.tupD, PM.joinD, PM.rjustD, PM.negD, List.length_cons, List.length_nil, List.getElem?_cons_zero, List.getElem?_cons_succ, List.set_cons_zero, List.set_cons_succ, List.map_cons, List.map_nil, List.cons_append, List.nil_append, List.append_nil, List.replicate, List.length_map, List.length_append, if_true, if_false, ite_true, ite_false, reduceIte, Bool.false_eq_true, decide_eq_true_eq, Option.map_some, Option.map_none, Option.bind_some, Option.bind_none, Option.some.injEq, Option.join, List.isEmpty_cons, List.isEmpty_nil, List.all_cons, List.all_nil, PM.owned, PM.noLS, PM.noL, PM.noLs, Bool.or_true, Bool.true_or, Bool.or_false, Bool.false_or, Bool.and_true, Bool.true_and, Bool.and_false, Bool.false_and, Bool.not_true, Bool.not_false, List.isEmpty_map, PM.setS, PM.augIxS, Nat.zero_add, Nat.reduceAdd, Nat.reduceSub, Nat.reduceLT, Nat.reduceEqDiff, law_text_ok h, hz, bit_text_ok h100, rest_bits_ok h100, is_text_ok (isB_okS hB), is_text_ok (isB_okS hB1), hw0, hw1, cut1, hrep', rep48, hadd, is_text_ok (isB_okS hBm), bit_count_ok h100, is_number_ok, hnb, decide_eq_true hbig, and_self]
  · have hno : M_number_of [.int (((bl n).length : Nat) : Int), .str ((bl n).drop 1)] = .ok (false, .int (n : Int)) := by
      by_cases z : n = 0
      · subst z
        rw [bl_zero]
        rfl
      · obtain ⟨r, e⟩ := bl_head 100 n h100 z
        have hr : isB r := fun c hc => hB c (by rw [e]; exact List.mem_cons_of_mem _ hc)
        have hlr : r.length ≤ 1000 := by rw [e, List.length_cons] at hl; omega
        have hn := nb_bl 100 n h100
        rw [e] at hn
        rw [e, List.drop_succ_cons, List.drop_zero, number_of_ok hr (by rw [List.length_cons]; omega) hlr, hn]
    simp only [PM.callE, PM.runF, PM.initE, PM.seqS, PM.asgS, PM.tgS, PM.parS, PM.appS, PM.augS, PM.dropS, PM.retS, PM.retN, PM.retV, PM.ifS, PM.forS, PM.M.thenS, PM.M.bind, PM.M.lift, PM.ret, PM.cst, PM.var, PM.pvar, PM.pk, PM.bin, PM.asB, PM.truth, PM.tru, PM.tand, PM.tor, PM.tnot, PM.vand, PM.vor, PM.vnot, PM.iff, PM.sli, PM.ono, PM.oin, PM.acons, PM.anil, PM.cnil, PM.cval, PM.cvw, PM.lstE, PM.tupE, PM.blt, PM.isi, PM.una, PM.smE, PM.src, PM.rng1, PM.rng2, PM.skip, PM.brkS, PM.cntS, PM.tgN, PM.itemsD, PM.tyD, PM.Ty.sub, PM.addD, PM.addIA, PM.subD, PM.mulD, PM.mulID, PM.fdivD, PM.modD, PM.powD, PM.ltD, PM.leD, PM.gtD, PM.geD, PM.cmpD, PM.eqD, PM.neD, PM.ixD, PM.sliceD, PM.lenD, PM.intD, PM.strD, PM.listD, PM.tupD, PM.joinD, PM.rjustD, PM.negD, List.length_cons, List.length_nil, List.getElem?_cons_zero, List.getElem?_cons_succ, List.set_cons_zero, List.set_cons_succ, List.map_cons, List.map_nil, List.cons_append, List.nil_append, List.append_nil, List.replicate, List.length_map, List.length_append, if_true, if_false, ite_true, ite_false, reduceIte, Bool.false_eq_true, decide_eq_true_eq, Option.map_some, Option.map_none, Option.bind_some, Option.bind_none, Option.some.injEq, Option.join, List.isEmpty_cons, List.isEmpty_nil, List.all_cons, List.all_nil, PM.owned, PM.noLS, PM.noL, PM.noLs, Bool.or_true, Bool.true_or, Bool.or_false, Bool.false_or, Bool.and_true, Bool.true_and, Bool.and_false, Bool.false_and, Bool.not_true, Bool.not_false, List.isEmpty_map, PM.setS, PM.augIxS, Nat.zero_add, Nat.reduceAdd, Nat.reduceSub, Nat.reduceLT, Nat.reduceEqDiff, law_text_ok h, hz, bit_text_ok h100, rest_bits_ok h100, is_text_ok (isB_okS hB), is_text_ok (isB_okS hB1), hw0, hw1, cut1, hrep', rep48, hadd, is_text_ok (isB_okS hBm), bit_count_ok h100, is_number_ok, hnb, decide_eq_false hbig, and_self, class_of_ok h100, hno]
/-! ### numbers counted by their classes -/
def bump (cs : List Int) (n : Nat) : List Int := cs.set (bl n).length (cs.getD (bl n).length 0 + 1)
theorem bump_len (cs : List Int) (n : Nat) : (bump cs n).length = cs.length := by unfold bump; simp
def natsD (ns : List Nat) : List D := ns.map fun (n : Nat) => D.int (n : Int)
theorem at_map {cs : List Int} {k : Nat} (h : k < cs.length) : atI (cs.map D.int) ((k : Nat) : Int) = some (.int (cs.getD k 0)) := by
  rw [atI_nat (by simpa using h), List.getElem?_map, List.getElem?_eq_getElem h]
  simp [h]
theorem map_set' (cs : List Int) (k : Nat) (v : Int) : (cs.map D.int).set k (.int v) = (cs.set k v).map D.int := by
  rw [List.map_set]
theorem cc_loop : ∀ (ns : List Nat) (cs : List Int) (x y : Option Slot), (∀ n ∈ ns, n < 2 ^ 20) → cs.length = 21 →
    ∃ y', forF (tgN 2) L1_class_counts (natsD ns) [x, some (true, .lst (cs.map D.int)), y] = .nx [x, some (true, .lst ((ns.foldl bump cs).map D.int)), y']
  | [], cs, x, y, _, _ => ⟨y, rfl⟩
  | n :: ns, cs, x, y, hn, hc => by
    obtain ⟨y', e⟩ := cc_loop ns (bump cs n) x (some (false, .int (n : Int))) (fun m hm => hn m (List.mem_cons_of_mem _ hm)) (by rw [bump_len, hc])
    refine ⟨y', ?_⟩
    have h20 := hn n List.mem_cons_self
    have h100 : n < 2 ^ 100 := Nat.lt_of_lt_of_le h20 (by decide)
    have hk : (bl n).length < cs.length := by have := bl_len 20 n h20; omega
    show forF _ _ (D.int (n : Int) :: natsD ns) _ = _
    rw [for_go (ρ1 := [x, some (true, .lst (cs.map D.int)), some (false, .int (n : Int))]) (ρ2 := [x, some (true, .lst ((bump cs n).map D.int)), some (false, .int (n : Int))]) rfl ?_, e]
    · rfl
    · simp only [L1_class_counts, PM.callE, PM.runF, PM.initE, PM.seqS, PM.asgS, PM.tgS, PM.parS, PM.appS, PM.augS, PM.dropS, PM.retS, PM.retN, PM.retV, PM.ifS, PM.forS, PM.M.thenS, PM.M.bind, PM.M.lift, PM.ret, PM.cst, PM.var, PM.pvar, PM.pk, PM.bin, PM.asB, PM.truth, PM.tru, PM.tand, PM.tor, PM.tnot, PM.vand, PM.vor, PM.vnot, PM.iff, PM.sli, PM.ono, PM.oin, PM.acons, PM.anil, PM.cnil, PM.cval, PM.cvw, PM.lstE, PM.tupE, PM.blt, PM.isi, PM.una, PM.smE, PM.src, PM.rng1, PM.rng2, PM.skip, PM.brkS, PM.cntS, PM.tgN, PM.itemsD, PM.tyD, PM.Ty.sub, PM.addD, PM.addIA, PM.subD, PM.mulD, PM.mulID, PM.fdivD, PM.modD, PM.powD, PM.ltD, PM.leD, PM.gtD, PM.geD, PM.cmpD, PM.eqD, PM.neD, PM.ixD, PM.sliceD, PM.lenD, PM.intD, PM.strD, PM.listD, PM.tupD, PM.joinD, PM.rjustD, PM.negD, List.length_cons, List.length_nil, List.getElem?_cons_zero, List.getElem?_cons_succ, List.set_cons_zero, List.set_cons_succ, List.map_cons, List.map_nil, List.cons_append, List.nil_append, List.append_nil, List.replicate, List.length_map, List.length_append, if_true, if_false, ite_true, ite_false, reduceIte, Bool.false_eq_true, decide_eq_true_eq, Option.map_some, Option.map_none, Option.bind_some, Option.bind_none, Option.some.injEq, Option.join, List.isEmpty_cons, List.isEmpty_nil, List.all_cons, List.all_nil, PM.owned, PM.noLS, PM.noL, PM.noLs, Bool.or_true, Bool.true_or, Bool.or_false, Bool.false_or, Bool.and_true, Bool.true_and, Bool.and_false, Bool.false_and, Bool.not_true, Bool.not_false, List.isEmpty_map, PM.setS, PM.augIxS, Nat.zero_add, Nat.reduceAdd, Nat.reduceSub, Nat.reduceLT, Nat.reduceEqDiff, class_of_ok h100, at_map hk, ixN_nat (show (bl n).length < cs.length from hk), map_set']
      rfl
theorem zeros : (List.replicate (Int.toNat 21) [D.int 0]).flatten = (List.replicate 21 (0 : Int)).map D.int := by rfl
def counts (ns : List Nat) : List Int := ns.foldl bump (List.replicate 21 0)
theorem counts_len (ns : List Nat) : (counts ns).length = 21 := by
  unfold counts
  have : ∀ (ns : List Nat) (cs : List Int), (ns.foldl bump cs).length = cs.length := by
    intro ns
    induction ns with
    | nil => intro cs; rfl
    | cons n ns ih => intro cs; rw [List.foldl_cons, ih, bump_len]
  rw [this]
  rfl
theorem class_counts_ok {ns : List Nat} (h : ∀ n ∈ ns, n < 2 ^ 20) : M_class_counts [.lst (natsD ns)] = .ok (true, .lst ((counts ns).map D.int)) := by
  obtain ⟨y', e⟩ := cc_loop ns (List.replicate 21 0) (some (false, .lst (natsD ns))) none h rfl
  have e : forF (tgN 2) L1_class_counts (natsD ns) [some (false, .lst (natsD ns)), some (true, .lst ((List.replicate 21 (0 : Int)).map D.int)), none] = .nx [some (false, .lst (natsD ns)), some (true, .lst ((counts ns).map D.int)), y'] := e
  simp only [List.replicate, List.map_cons, List.map_nil] at e
  unfold M_class_counts S_class_counts
  simp only [PM.callE, PM.runF, PM.initE, PM.seqS, PM.asgS, PM.tgS, PM.parS, PM.appS, PM.augS, PM.dropS, PM.retS, PM.retN, PM.retV, PM.ifS, PM.forS, PM.M.thenS, PM.M.bind, PM.M.lift, PM.ret, PM.cst, PM.var, PM.pvar, PM.pk, PM.bin, PM.asB, PM.truth, PM.tru, PM.tand, PM.tor, PM.tnot, PM.vand, PM.vor, PM.vnot, PM.iff, PM.sli, PM.ono, PM.oin, PM.acons, PM.anil, PM.cnil, PM.cval, PM.cvw, PM.lstE, PM.tupE, PM.blt, PM.isi, PM.una, PM.smE, PM.src, PM.rng1, PM.rng2, PM.skip, PM.brkS, PM.cntS, PM.tgN, PM.itemsD, PM.tyD, PM.Ty.sub, PM.addD, PM.addIA, PM.subD, PM.mulD, PM.mulID, PM.fdivD, PM.modD, PM.powD, PM.ltD, PM.leD, PM.gtD, PM.geD, PM.cmpD, PM.eqD, PM.neD, PM.ixD, PM.sliceD, PM.lenD, PM.intD, PM.strD, PM.listD, PM.tupD, PM.joinD, PM.rjustD, PM.negD, List.length_cons, List.length_nil, List.getElem?_cons_zero, List.getElem?_cons_succ, List.set_cons_zero, List.set_cons_succ, List.map_cons, List.map_nil, List.cons_append, List.nil_append, List.append_nil, List.replicate, List.length_map, List.length_append, if_true, if_false, ite_true, ite_false, reduceIte, Bool.false_eq_true, decide_eq_true_eq, Option.map_some, Option.map_none, Option.bind_some, Option.bind_none, Option.some.injEq, Option.join, List.isEmpty_cons, List.isEmpty_nil, List.all_cons, List.all_nil, PM.owned, PM.noLS, PM.noL, PM.noLs, Bool.or_true, Bool.true_or, Bool.or_false, Bool.false_or, Bool.and_true, Bool.true_and, Bool.and_false, Bool.false_and, Bool.not_true, Bool.not_false, List.isEmpty_map, PM.setS, PM.augIxS, Nat.zero_add, Nat.reduceAdd, Nat.reduceSub, Nat.reduceLT, Nat.reduceEqDiff, show ((20 : Int) + 1) = 21 from rfl, show (21 : Int).toNat = 21 from rfl, show 1 * 21 ≤ sizeLine ∧ -(2 ^ 63) ≤ (21 : Int) ∧ (21 : Int) < 2 ^ 63 by decide, show 1 ≤ sizeLine by decide, and_self, List.flatten_cons, List.flatten_nil, e]
theorem due_loop : ∀ (ns : List Nat) (cs : List Int) (x y a b : Option Slot), (∀ n ∈ ns, n < 2 ^ 20) → cs.length = 21 →
    ∃ y', forF (tgN 2) L1__law_counted (natsD ns) [x, some (true, .lst (cs.map D.int)), y, a, b] = .nx [x, some (true, .lst ((ns.foldl bump cs).map D.int)), y', a, b]
  | [], cs, x, y, a, b, _, _ => ⟨y, rfl⟩
  | n :: ns, cs, x, y, a, b, hn, hc => by
    obtain ⟨y', e⟩ := due_loop ns (bump cs n) x (some (false, .int (n : Int))) a b (fun m hm => hn m (List.mem_cons_of_mem _ hm)) (by rw [bump_len, hc])
    refine ⟨y', ?_⟩
    have h20 := hn n List.mem_cons_self
    have h70 : n < 2 ^ 70 := Nat.lt_of_lt_of_le h20 (by decide)
    have hk : (bl n).length < cs.length := by have := bl_len 20 n h20; omega
    have hz : (bl n).length ≤ sizeLine := by have := bl_len 20 n h20; rw [sl_eq]; omega
    show forF _ _ (D.int (n : Int) :: natsD ns) _ = _
    rw [for_go (ρ1 := [x, some (true, .lst (cs.map D.int)), some (false, .int (n : Int)), a, b]) (ρ2 := [x, some (true, .lst ((bump cs n).map D.int)), some (false, .int (n : Int)), a, b]) rfl ?_, e]
    · rfl
    · simp only [L1__law_counted, PM.callE, PM.runF, PM.initE, PM.seqS, PM.asgS, PM.tgS, PM.parS, PM.appS, PM.augS, PM.dropS, PM.retS, PM.retN, PM.retV, PM.ifS, PM.forS, PM.M.thenS, PM.M.bind, PM.M.lift, PM.ret, PM.cst, PM.var, PM.pvar, PM.pk, PM.bin, PM.asB, PM.truth, PM.tru, PM.tand, PM.tor, PM.tnot, PM.vand, PM.vor, PM.vnot, PM.iff, PM.sli, PM.ono, PM.oin, PM.acons, PM.anil, PM.cnil, PM.cval, PM.cvw, PM.lstE, PM.tupE, PM.blt, PM.isi, PM.una, PM.smE, PM.src, PM.rng1, PM.rng2, PM.skip, PM.brkS, PM.cntS, PM.tgN, PM.itemsD, PM.tyD, PM.Ty.sub, PM.addD, PM.addIA, PM.subD, PM.mulD, PM.mulID, PM.fdivD, PM.modD, PM.powD, PM.ltD, PM.leD, PM.gtD, PM.geD, PM.cmpD, PM.eqD, PM.neD, PM.ixD, PM.sliceD, PM.lenD, PM.intD, PM.strD, PM.listD, PM.tupD, PM.joinD, PM.rjustD, PM.negD, List.length_cons, List.length_nil, List.getElem?_cons_zero, List.getElem?_cons_succ, List.set_cons_zero, List.set_cons_succ, List.map_cons, List.map_nil, List.cons_append, List.nil_append, List.append_nil, List.replicate, List.length_map, List.length_append, if_true, if_false, ite_true, ite_false, reduceIte, Bool.false_eq_true, decide_eq_true_eq, Option.map_some, Option.map_none, Option.bind_some, Option.bind_none, Option.some.injEq, Option.join, List.isEmpty_cons, List.isEmpty_nil, List.all_cons, List.all_nil, PM.owned, PM.noLS, PM.noL, PM.noLs, Bool.or_true, Bool.true_or, Bool.or_false, Bool.false_or, Bool.and_true, Bool.true_and, Bool.and_false, Bool.false_and, Bool.not_true, Bool.not_false, List.isEmpty_map, PM.setS, PM.augIxS, Nat.zero_add, Nat.reduceAdd, Nat.reduceSub, Nat.reduceLT, Nat.reduceEqDiff, law_text_ok h70, hz, at_map hk, ixN_nat (show (bl n).length < cs.length from hk), map_set']
      rfl
theorem cmp_loop (cs : List Int) (hc : cs.length = 21) : ∀ (ds : List D) (x y z : Option Slot), (∀ d ∈ ds, ∃ k : Int, d = .int k ∧ 0 ≤ k ∧ k < 21) →
    ∃ z', forF (tgN 4) L2__law_counted ds [x, some (true, .lst (cs.map D.int)), y, some (true, .lst (cs.map D.int)), z] = .nx [x, some (true, .lst (cs.map D.int)), y, some (true, .lst (cs.map D.int)), z']
  | [], x, y, z, _ => ⟨z, rfl⟩
  | d :: ds, x, y, z, hd => by
    obtain ⟨k, rfl, k0, k1⟩ := hd d List.mem_cons_self
    obtain ⟨z', e⟩ := cmp_loop cs hc ds x y (some (false, .int k)) fun d h => hd d (List.mem_cons_of_mem _ h)
    refine ⟨z', ?_⟩
    have hat := at_map (cs := cs) (k := k.toNat) (by omega)
    rw [Int.toNat_of_nonneg k0] at hat
    rw [for_go (ρ1 := [x, some (true, .lst (cs.map D.int)), y, some (true, .lst (cs.map D.int)), some (false, .int k)]) (ρ2 := [x, some (true, .lst (cs.map D.int)), y, some (true, .lst (cs.map D.int)), some (false, .int k)]) rfl (by simp only [L2__law_counted, PM.callE, PM.runF, PM.initE, PM.seqS, PM.asgS, PM.tgS, PM.parS, PM.appS, PM.augS, PM.dropS, PM.retS, PM.retN, PM.retV, PM.ifS, PM.forS, PM.M.thenS, PM.M.bind, PM.M.lift, PM.ret, PM.cst, PM.var, PM.pvar, PM.pk, PM.bin, PM.asB, PM.truth, PM.tru, PM.tand, PM.tor, PM.tnot, PM.vand, PM.vor, PM.vnot, PM.iff, PM.sli, PM.ono, PM.oin, PM.acons, PM.anil, PM.cnil, PM.cval, PM.cvw, PM.lstE, PM.tupE, PM.blt, PM.isi, PM.una, PM.smE, PM.src, PM.rng1, PM.rng2, PM.skip, PM.brkS, PM.cntS, PM.tgN, PM.itemsD, PM.tyD, PM.Ty.sub, PM.addD, PM.addIA, PM.subD, PM.mulD, PM.mulID, PM.fdivD, PM.modD, PM.powD, PM.ltD, PM.leD, PM.gtD, PM.geD, PM.cmpD, PM.eqD, PM.neD, PM.ixD, PM.sliceD, PM.lenD, PM.intD, PM.strD, PM.listD, PM.tupD, PM.joinD, PM.rjustD, PM.negD, List.length_cons, List.length_nil, List.getElem?_cons_zero, List.getElem?_cons_succ, List.set_cons_zero, List.set_cons_succ, List.map_cons, List.map_nil, List.cons_append, List.nil_append, List.append_nil, List.replicate, List.length_map, List.length_append, if_true, if_false, ite_true, ite_false, reduceIte, Bool.false_eq_true, decide_eq_true_eq, Option.map_some, Option.map_none, Option.bind_some, Option.bind_none, Option.some.injEq, Option.join, List.isEmpty_cons, List.isEmpty_nil, List.all_cons, List.all_nil, PM.owned, PM.noLS, PM.noL, PM.noLs, Bool.or_true, Bool.true_or, Bool.or_false, Bool.false_or, Bool.and_true, Bool.true_and, Bool.and_false, Bool.false_and, Bool.not_true, Bool.not_false, List.isEmpty_map, PM.setS, PM.augIxS, Nat.zero_add, Nat.reduceAdd, Nat.reduceSub, Nat.reduceLT, Nat.reduceEqDiff, hat, is_number_ok]), e]
theorem nl_ints (cs : List Int) : noLs (cs.map D.int) = true := by
  induction cs with
  | nil => rfl
  | cons c cs ih => rw [List.map_cons]; unfold noLs noL; rw [ih]; rfl
theorem counted_ok {ns : List Nat} (h : ∀ n ∈ ns, n < 2 ^ 20) : M__law_counted [.lst (natsD ns)] = .ok (false, .bl true) := by
  obtain ⟨y', e⟩ := due_loop ns (List.replicate 21 0) (some (false, .lst (natsD ns))) none none none h rfl
  obtain ⟨z', e2⟩ := cmp_loop (counts ns) (counts_len ns) (intsR 0 21) (some (false, .lst (natsD ns))) y' none fun d hd => by
    unfold intsR at hd
    obtain ⟨i, hi, rfl⟩ := List.mem_map.mp hd
    have := List.mem_range.mp hi
    exact ⟨_, rfl, by omega, by omega⟩
  have e : forF (tgN 2) L1__law_counted (natsD ns) [some (false, .lst (natsD ns)), some (true, .lst ((List.replicate 21 (0 : Int)).map D.int)), none, none, none] = .nx [some (false, .lst (natsD ns)), some (true, .lst ((counts ns).map D.int)), y', none, none] := e
  have hcl := counts_len ns
  have hat := at_map (cs := counts ns) (k := 0) (by rw [hcl]; decide)
  have hat : atI ((counts ns).map D.int) 0 = some (.int ((counts ns).getD 0 0)) := hat
  have hix : ixN 21 (0 : Int) = some 0 := rfl
  unfold M__law_counted S__law_counted T1__law_counted T2__law_counted T3__law_counted T4__law_counted T5__law_counted T6__law_counted T7__law_counted T8__law_counted
  simp only [List.replicate, List.map_cons, List.map_nil] at e
  simp only [PM.callE, PM.runF, PM.initE, PM.seqS, PM.asgS, PM.tgS, PM.parS, PM.appS, PM.augS, PM.dropS, PM.retS, PM.retN, PM.retV, PM.ifS, PM.forS, PM.M.thenS, PM.M.bind, PM.M.lift, PM.ret, PM.cst, PM.var, PM.pvar, PM.pk, PM.bin, PM.asB, PM.truth, PM.tru, PM.tand, PM.tor, PM.tnot, PM.vand, PM.vor, PM.vnot, PM.iff, PM.sli, PM.ono, PM.oin, PM.acons, PM.anil, PM.cnil, PM.cval, PM.cvw, PM.lstE, PM.tupE, PM.blt, PM.isi, PM.una, PM.smE, PM.src, PM.rng1, PM.rng2, PM.skip, PM.brkS, PM.cntS, PM.tgN, PM.itemsD, PM.tyD, PM.Ty.sub, PM.addD, PM.addIA, PM.subD, PM.mulD, PM.mulID, PM.fdivD, PM.modD, PM.powD, PM.ltD, PM.leD, PM.gtD, PM.geD, PM.cmpD, PM.eqD, PM.neD, PM.ixD, PM.sliceD, PM.lenD, PM.intD, PM.strD, PM.listD, PM.tupD, PM.joinD, PM.rjustD, PM.negD, List.length_cons, List.length_nil, List.getElem?_cons_zero, List.getElem?_cons_succ, List.set_cons_zero, List.set_cons_succ, List.map_cons, List.map_nil, List.cons_append, List.nil_append, List.append_nil, List.replicate, List.length_map, List.length_append, if_true, if_false, ite_true, ite_false, reduceIte, Bool.false_eq_true, decide_eq_true_eq, Option.map_some, Option.map_none, Option.bind_some, Option.bind_none, Option.some.injEq, Option.join, List.isEmpty_cons, List.isEmpty_nil, List.all_cons, List.all_nil, PM.owned, PM.noLS, PM.noL, PM.noLs, Bool.or_true, Bool.true_or, Bool.or_false, Bool.false_or, Bool.and_true, Bool.true_and, Bool.and_false, Bool.false_and, Bool.not_true, Bool.not_false, List.isEmpty_map, PM.setS, PM.augIxS, Nat.zero_add, Nat.reduceAdd, Nat.reduceSub, Nat.reduceLT, Nat.reduceEqDiff, show 1 * 21 ≤ sizeLine ∧ -(2 ^ 63) ≤ (21 : Int) ∧ (21 : Int) < 2 ^ 63 by decide, show 1 ≤ sizeLine by decide, and_self, List.flatten_cons, List.flatten_nil, e, class_counts_ok h, hcl, eqv_int, show ((21 : Nat) : Int) = 21 from rfl, decide_true,
    show -(2 ^ 62) ≤ (21 : Int) ∧ (21 : Int) < 2 ^ 62 by decide, show (21 : Int).toNat = 21 from rfl, e2, hat, hix, eqv_ints, List.length_set, show 21 < sizeLine by decide, show decide (Ty.lst = Ty.lst) = true from rfl]

/-! ### the law -/
theorem natsD_map (ns : List Nat) : natsD ns = (ns.map fun (n : Nat) => (n : Int)).map D.int := by
  unfold natsD
  rw [List.map_map]
  rfl
theorem ones_loop : ∀ (ds : List Nat) (a b c d e f g h i : Option Slot) (l : List Int), Nums l → b = some (true, .lst (l.map D.int)) → (∀ n ∈ ds, n < 2 ^ 70) →
    ∃ d', forF (tgN 3) L1_law (natsD ds) [a, b, c, d, e, f, g, h, i] = .nx [a, b, c, d', e, f, g, h, i]
  | [], a, b, c, d, e, f, g, h, i, l, _, _, _ => ⟨d, rfl⟩
  | n :: ds, a, b, c, d, e, f, g, h, i, l, hN, hb, hd => by
    obtain ⟨d', r⟩ := ones_loop ds a b c (some (false, .int (n : Int))) e f g h i l hN hb fun m hm => hd m (List.mem_cons_of_mem _ hm)
    refine ⟨d', ?_⟩
    obtain ⟨x, ex, x0, x1⟩ := hN.at (i := 19) (by decide) (by decide)
    have hn := hd n List.mem_cons_self
    have ho := one_ok hn (more := x % 13) (by omega) (by omega)
    show forF _ _ (D.int (n : Int) :: natsD ds) _ = _
    rw [for_go (ρ1 := [a, b, c, some (false, .int (n : Int)), e, f, g, h, i]) (ρ2 := [a, b, c, some (false, .int (n : Int)), e, f, g, h, i]) rfl ?_, r]
    subst hb
    simp only [L1_law, PM.callE, PM.runF, PM.initE, PM.seqS, PM.asgS, PM.tgS, PM.parS, PM.appS, PM.augS, PM.dropS, PM.retS, PM.retN, PM.retV, PM.ifS, PM.forS, PM.M.thenS, PM.M.bind, PM.M.lift, PM.ret, PM.cst, PM.var, PM.pvar, PM.pk, PM.bin, PM.asB, PM.truth, PM.tru, PM.tand, PM.tor, PM.tnot, PM.vand, PM.vor, PM.vnot, PM.iff, PM.sli, PM.ono, PM.oin, PM.acons, PM.anil, PM.cnil, PM.cval, PM.cvw, PM.lstE, PM.tupE, PM.blt, PM.isi, PM.una, PM.smE, PM.src, PM.rng1, PM.rng2, PM.skip, PM.brkS, PM.cntS, PM.tgN, PM.itemsD, PM.tyD, PM.Ty.sub, PM.addD, PM.addIA, PM.subD, PM.mulD, PM.mulID, PM.fdivD, PM.modD, PM.powD, PM.ltD, PM.leD, PM.gtD, PM.geD, PM.cmpD, PM.eqD, PM.neD, PM.ixD, PM.sliceD, PM.lenD, PM.intD, PM.strD, PM.listD, PM.tupD, PM.joinD, PM.rjustD, PM.negD, List.length_cons, List.length_nil, List.getElem?_cons_zero, List.getElem?_cons_succ, List.set_cons_zero, List.set_cons_succ, List.map_cons, List.map_nil, List.cons_append, List.nil_append, List.append_nil, List.replicate, List.length_map, List.length_append, if_true, if_false, ite_true, ite_false, reduceIte, Bool.false_eq_true, decide_eq_true_eq, Option.map_some, Option.map_none, Option.bind_some, Option.bind_none, Option.some.injEq, Option.join, List.isEmpty_cons, List.isEmpty_nil, List.all_cons, List.all_nil, PM.owned, PM.noLS, PM.noL, PM.noLs, Bool.or_true, Bool.true_or, Bool.or_false, Bool.false_or, Bool.and_true, Bool.true_and, Bool.and_false, Bool.false_and, Bool.not_true, Bool.not_false, List.isEmpty_map, PM.setS, PM.augIxS, Nat.zero_add, Nat.reduceAdd, Nat.reduceSub, Nat.reduceLT, Nat.reduceEqDiff, ex, show (0 : Int) < 13 by decide, ho]
theorem signs_loop (a c d e f g i : Option Slot) (l : List Int) (hN : Nums l) : ∀ (ds : List D), (∀ x ∈ ds, ∃ k : Int, x = .int k ∧ 0 ≤ k ∧ k < 20) →
    ∃ bs : List Nat, isB bs ∧ bs.length = ds.length ∧ compF (tgN 7) yes C1_law [7] ds [a, some (true, .lst (l.map D.int)), c, d, e, f, g, none, i] = .ok (bs.map fun c => D.str [c]) [a, some (true, .lst (l.map D.int)), c, d, e, f, g, none, i]
  | [], _ => ⟨[], (fun c h => by cases h), rfl, rfl⟩
  | x :: ds, hd => by
    obtain ⟨k, rfl, k0, k1⟩ := hd x List.mem_cons_self
    obtain ⟨bs, h1, h2, h3⟩ := signs_loop a c d e f g i l hN ds fun y h => hd y (List.mem_cons_of_mem _ h)
    obtain ⟨y, ey, y0, y1⟩ := hN.at (i := 20 + k) (by omega) (by omega)
    have hat : ∃ b, (b = 48 ∨ b = 49) ∧ atI [48, 49] (y % 2) = some b := by
      have : y % 2 = 0 ∨ y % 2 = 1 := by omega
      rcases this with e | e <;> rw [e]
      · exact ⟨48, .inl rfl, rfl⟩
      · exact ⟨49, .inr rfl, rfl⟩
    obtain ⟨b, hb, hat⟩ := hat
    refine ⟨b :: bs, fun z hz => ?_, by rw [List.length_cons, List.length_cons, h2], ?_⟩
    · rcases List.mem_cons.mp hz with rfl | hz
      · exact hb
      · exact h1 z hz
    · refine comp_go (ρ1 := [a, some (true, .lst (l.map D.int)), c, d, e, f, g, some (false, .int k), i]) (ρ2 := [a, some (true, .lst (l.map D.int)), c, d, e, f, g, some (false, .int k), i]) (ρ3 := [a, some (true, .lst (l.map D.int)), c, d, e, f, g, some (false, .int k), i]) rfl rfl ?_ h3
      simp only [C1_law, PM.callE, PM.runF, PM.initE, PM.seqS, PM.asgS, PM.tgS, PM.parS, PM.appS, PM.augS, PM.dropS, PM.retS, PM.retN, PM.retV, PM.ifS, PM.forS, PM.M.thenS, PM.M.bind, PM.M.lift, PM.ret, PM.cst, PM.var, PM.pvar, PM.pk, PM.bin, PM.asB, PM.truth, PM.tru, PM.tand, PM.tor, PM.tnot, PM.vand, PM.vor, PM.vnot, PM.iff, PM.sli, PM.ono, PM.oin, PM.acons, PM.anil, PM.cnil, PM.cval, PM.cvw, PM.lstE, PM.tupE, PM.blt, PM.isi, PM.una, PM.smE, PM.src, PM.rng1, PM.rng2, PM.skip, PM.brkS, PM.cntS, PM.tgN, PM.itemsD, PM.tyD, PM.Ty.sub, PM.addD, PM.addIA, PM.subD, PM.mulD, PM.mulID, PM.fdivD, PM.modD, PM.powD, PM.ltD, PM.leD, PM.gtD, PM.geD, PM.cmpD, PM.eqD, PM.neD, PM.ixD, PM.sliceD, PM.lenD, PM.intD, PM.strD, PM.listD, PM.tupD, PM.joinD, PM.rjustD, PM.negD, List.length_cons, List.length_nil, List.getElem?_cons_zero, List.getElem?_cons_succ, List.set_cons_zero, List.set_cons_succ, List.map_cons, List.map_nil, List.cons_append, List.nil_append, List.append_nil, List.replicate, List.length_map, List.length_append, if_true, if_false, ite_true, ite_false, reduceIte, Bool.false_eq_true, decide_eq_true_eq, Option.map_some, Option.map_none, Option.bind_some, Option.bind_none, Option.some.injEq, Option.join, List.isEmpty_cons, List.isEmpty_nil, List.all_cons, List.all_nil, PM.owned, PM.noLS, PM.noL, PM.noLs, Bool.or_true, Bool.true_or, Bool.or_false, Bool.false_or, Bool.and_true, Bool.true_and, Bool.and_false, Bool.false_and, Bool.not_true, Bool.not_false, List.isEmpty_map, PM.setS, PM.augIxS, Nat.zero_add, Nat.reduceAdd, Nat.reduceSub, Nat.reduceLT, Nat.reduceEqDiff, ey, show (0 : Int) < 2 by decide, show 2 ≤ sizeLine by decide, hat]
theorem strsD_signs : ∀ bs : List Nat, strsD (bs.map fun c => D.str [c]) = some (bs.map fun c => [c])
  | [] => rfl
  | b :: bs => by rw [List.map_cons, strsD, strsD_signs bs]; rfl
theorem joinL_signs : ∀ bs : List Nat, joinL [] (bs.map fun c => [c]) = bs
  | [] => rfl
  | b :: bs => by
    rw [List.map_cons, joinL]
    have : ∀ bs : List Nat, (List.map (fun z => [] ++ z) (bs.map fun c => [c])).flatten = bs := by
      intro bs
      induction bs with
      | nil => rfl
      | cons c bs ih => rw [List.map_cons, List.map_cons, List.flatten_cons, ih]; rfl
    rw [this]
    rfl
theorem sum_signs : ∀ bs : List Nat, ((bs.map fun c => [c]).map (·.length)).sum = bs.length
  | [] => rfl
  | b :: bs => by rw [List.map_cons, List.map_cons, List.sum_cons, sum_signs bs, List.length_cons, List.length_cons, List.length_nil]; omega
theorem more_loop (l m : List Int) (hN : Nums l) (hM : Nums m) (a c d e i : Option Slot) : ∀ (ds : List D) (acc : List Nat) (h : Option Slot), (∀ x ∈ ds, ∃ k : Int, x = .int k ∧ 0 ≤ k ∧ k < 30) → (∀ n ∈ acc, n < 2 ^ 20) → acc.length + ds.length ≤ 1000 →
    ∃ ns : List Nat, ∃ h', (∀ n ∈ ns, n < 2 ^ 20) ∧ ns.length = acc.length + ds.length ∧ forF (tgN 7) L2_law ds [a, some (true, .lst (l.map D.int)), c, d, e, some (true, .lst (m.map D.int)), some (true, .lst (natsD acc)), h, i] =
      .nx [a, some (true, .lst (l.map D.int)), c, d, e, some (true, .lst (m.map D.int)), some (true, .lst (natsD ns)), h', i]
  | [], acc, h, _, ha, _ => ⟨acc, h, ha, rfl, rfl⟩
  | x :: ds, acc, h, hd, ha, hl => by
    obtain ⟨k, rfl, k0, k1⟩ := hd x List.mem_cons_self
    obtain ⟨u, eu, u0, u1⟩ := hM.at (i := k) k0 (by omega)
    obtain ⟨v, ev, v0, v1⟩ := hM.at (i := k + 29) (by omega) (by omega)
    obtain ⟨w, ew, w0, w1⟩ := hN.at (i := 47) (by decide) (by decide)
    obtain ⟨y, ey, y0, y1⟩ := hM.at (i := k + 30 - w % 30) (by omega) (by omega)
    have hp := power_ok (k := y % 21) (by omega) (by omega)
    have hpos : (0 : Int) < ((2 ^ (y % 21).toNat : Nat) : Int) := by
      have := Nat.two_pow_pos (y % 21).toNat
      omega
    have m1 : mulOk u 1009 = true := mulOk_r (by decide) (by decide)
    have q0 := Int.emod_nonneg (u * 1009 + v) (show ((2 ^ (y % 21).toNat : Nat) : Int) ≠ 0 by omega)
    have q1 := Int.emod_lt_of_pos (u * 1009 + v) hpos
    have q2 : 2 ^ (y % 21).toNat ≤ 2 ^ 20 := Nat.pow_le_pow_right (by decide) (by omega)
    have hn : ((u * 1009 + v) % ((2 ^ (y % 21).toNat : Nat) : Int)).toNat < 2 ^ 20 := by omega
    obtain ⟨ns, h', g1, g2, g3⟩ := more_loop l m hN hM a c d e i ds (acc ++ [((u * 1009 + v) % ((2 ^ (y % 21).toNat : Nat) : Int)).toNat]) (some (false, .int k)) (fun z hz => hd z (List.mem_cons_of_mem _ hz)) (fun n hn' => by
      rcases List.mem_append.mp hn' with hn' | hn'
      · exact ha n hn'
      · rw [List.mem_singleton.mp hn']
        exact hn) (by simp at hl ⊢; omega)
    refine ⟨ns, h', g1, by rw [g2, List.length_append, List.length_cons, List.length_cons, List.length_nil]; omega, ?_⟩
    rw [for_go (ρ1 := [a, some (true, .lst (l.map D.int)), c, d, e, some (true, .lst (m.map D.int)), some (true, .lst (natsD acc)), some (false, .int k), i]) rfl ?_, g3]
    have hsz : (natsD acc).length < sizeLine := by unfold natsD; rw [sl_eq, List.length_map]; simp at hl; omega
    have hap : natsD acc ++ [D.int ((u * 1009 + v) % ((2 ^ (y % 21).toNat : Nat) : Int))] = natsD (acc ++ [((u * 1009 + v) % ((2 ^ (y % 21).toNat : Nat) : Int)).toNat]) := by
      unfold natsD
      rw [List.map_append, List.map_cons, List.map_nil, Int.toNat_of_nonneg q0]
    simp only [L2_law, PM.callE, PM.runF, PM.initE, PM.seqS, PM.asgS, PM.tgS, PM.parS, PM.appS, PM.augS, PM.dropS, PM.retS, PM.retN, PM.retV, PM.ifS, PM.forS, PM.M.thenS, PM.M.bind, PM.M.lift, PM.ret, PM.cst, PM.var, PM.pvar, PM.pk, PM.bin, PM.asB, PM.truth, PM.tru, PM.tand, PM.tor, PM.tnot, PM.vand, PM.vor, PM.vnot, PM.iff, PM.sli, PM.ono, PM.oin, PM.acons, PM.anil, PM.cnil, PM.cval, PM.cvw, PM.lstE, PM.tupE, PM.blt, PM.isi, PM.una, PM.smE, PM.src, PM.rng1, PM.rng2, PM.skip, PM.brkS, PM.cntS, PM.tgN, PM.itemsD, PM.tyD, PM.Ty.sub, PM.addD, PM.addIA, PM.subD, PM.mulD, PM.mulID, PM.fdivD, PM.modD, PM.powD, PM.ltD, PM.leD, PM.gtD, PM.geD, PM.cmpD, PM.eqD, PM.neD, PM.ixD, PM.sliceD, PM.lenD, PM.intD, PM.strD, PM.listD, PM.tupD, PM.joinD, PM.rjustD, PM.negD, List.length_cons, List.length_nil, List.getElem?_cons_zero, List.getElem?_cons_succ, List.set_cons_zero, List.set_cons_succ, List.map_cons, List.map_nil, List.cons_append, List.nil_append, List.append_nil, List.replicate, List.length_map, List.length_append, if_true, if_false, ite_true, ite_false, reduceIte, Bool.false_eq_true, decide_eq_true_eq, Option.map_some, Option.map_none, Option.bind_some, Option.bind_none, Option.some.injEq, Option.join, List.isEmpty_cons, List.isEmpty_nil, List.all_cons, List.all_nil, PM.owned, PM.noLS, PM.noL, PM.noLs, Bool.or_true, Bool.true_or, Bool.or_false, Bool.false_or, Bool.and_true, Bool.true_and, Bool.and_false, Bool.false_and, Bool.not_true, Bool.not_false, List.isEmpty_map, PM.setS, PM.augIxS, Nat.zero_add, Nat.reduceAdd, Nat.reduceSub, Nat.reduceLT, Nat.reduceEqDiff, eu, ev, ew, ey, hp, hpos, m1, hsz, hap, show (0 : Int) < 30 by decide, show (0 : Int) < 21 by decide]
theorem intsR_lt {n : Nat} {b : Int} (h : (n : Int) ≤ b) : ∀ d ∈ intsR 0 n, ∃ k : Int, d = .int k ∧ 0 ≤ k ∧ k < b := fun d hd => by
  unfold intsR at hd
  obtain ⟨i, hi, rfl⟩ := List.mem_map.mp hd
  have := List.mem_range.mp hi
  exact ⟨_, rfl, by omega, by omega⟩
theorem intsR_len {n : Nat} : (intsR 0 n).length = n := by unfold intsR; simp
theorem law_true (ns : List Int) (hl : ns.length ≤ 63) : M_law [PM.scr ns] = .ok (false, .bl true) := by
  obtain ⟨l, hN, eN⟩ := numbers_ok ns hl (a := 0) (by decide) (by decide)
  obtain ⟨m, hM, eM⟩ := numbers_ok ns hl (a := 1) (by decide) (by decide)
  have nl : noLs (l.map D.int) = true := nl_ints l
  refine run_rt rfl ?_
  unfold S_law
  show seqS T1_law _ [some (false, scr ns), none, none, none, none, none, none, none, none] = _
  rw [seq_nx (ρ1 := [some (false, scr ns), some (true, .lst (l.map D.int)), none, none, none, none, none, none, none]) (by simp only [T1_law, PM.callE, PM.runF, PM.initE, PM.seqS, PM.asgS, PM.tgS, PM.parS, PM.appS, PM.augS, PM.dropS, PM.retS, PM.retN, PM.retV, PM.ifS, PM.forS, PM.M.thenS, PM.M.bind, PM.M.lift, PM.ret, PM.cst, PM.var, PM.pvar, PM.pk, PM.bin, PM.asB, PM.truth, PM.tru, PM.tand, PM.tor, PM.tnot, PM.vand, PM.vor, PM.vnot, PM.iff, PM.sli, PM.ono, PM.oin, PM.acons, PM.anil, PM.cnil, PM.cval, PM.cvw, PM.lstE, PM.tupE, PM.blt, PM.isi, PM.una, PM.smE, PM.src, PM.rng1, PM.rng2, PM.skip, PM.brkS, PM.cntS, PM.tgN, PM.itemsD, PM.tyD, PM.Ty.sub, PM.addD, PM.addIA, PM.subD, PM.mulD, PM.mulID, PM.fdivD, PM.modD, PM.powD, PM.ltD, PM.leD, PM.gtD, PM.geD, PM.cmpD, PM.eqD, PM.neD, PM.ixD, PM.sliceD, PM.lenD, PM.intD, PM.strD, PM.listD, PM.tupD, PM.joinD, PM.rjustD, PM.negD, List.length_cons, List.length_nil, List.getElem?_cons_zero, List.getElem?_cons_succ, List.set_cons_zero, List.set_cons_succ, List.map_cons, List.map_nil, List.cons_append, List.nil_append, List.append_nil, List.replicate, List.length_map, List.length_append, if_true, if_false, ite_true, ite_false, reduceIte, Bool.false_eq_true, decide_eq_true_eq, Option.map_some, Option.map_none, Option.bind_some, Option.bind_none, Option.some.injEq, Option.join, List.isEmpty_cons, List.isEmpty_nil, List.all_cons, List.all_nil, PM.owned, PM.noLS, PM.noL, PM.noLs, Bool.or_true, Bool.true_or, Bool.or_false, Bool.false_or, Bool.and_true, Bool.true_and, Bool.and_false, Bool.false_and, Bool.not_true, Bool.not_false, List.isEmpty_map, PM.setS, PM.augIxS, Nat.zero_add, Nat.reduceAdd, Nat.reduceSub, Nat.reduceLT, Nat.reduceEqDiff, eN])]
  obtain ⟨x7, e7, a7, b7⟩ := hN.at (i := 7) (by decide) (by decide)
  obtain ⟨x8, e8, a8, b8⟩ := hN.at (i := 8) (by decide) (by decide)
  obtain ⟨n1, l1, d1⟩ := drawn_ok hN (a := 0) (s := x7 % 61) (by decide) (by decide) (by omega) (by omega)
  have o1 := one_ok (n := n1) (Nat.lt_of_lt_of_le l1 (by decide)) (more := x8 % 13) (by omega) (by omega)
  rw [seq_nx (ρ1 := [some (false, scr ns), some (true, .lst (l.map D.int)), none, none, none, none, none, none, none]) (by simp only [T2_law, PM.callE, PM.runF, PM.initE, PM.seqS, PM.asgS, PM.tgS, PM.parS, PM.appS, PM.augS, PM.dropS, PM.retS, PM.retN, PM.retV, PM.ifS, PM.forS, PM.M.thenS, PM.M.bind, PM.M.lift, PM.ret, PM.cst, PM.var, PM.pvar, PM.pk, PM.bin, PM.asB, PM.truth, PM.tru, PM.tand, PM.tor, PM.tnot, PM.vand, PM.vor, PM.vnot, PM.iff, PM.sli, PM.ono, PM.oin, PM.acons, PM.anil, PM.cnil, PM.cval, PM.cvw, PM.lstE, PM.tupE, PM.blt, PM.isi, PM.una, PM.smE, PM.src, PM.rng1, PM.rng2, PM.skip, PM.brkS, PM.cntS, PM.tgN, PM.itemsD, PM.tyD, PM.Ty.sub, PM.addD, PM.addIA, PM.subD, PM.mulD, PM.mulID, PM.fdivD, PM.modD, PM.powD, PM.ltD, PM.leD, PM.gtD, PM.geD, PM.cmpD, PM.eqD, PM.neD, PM.ixD, PM.sliceD, PM.lenD, PM.intD, PM.strD, PM.listD, PM.tupD, PM.joinD, PM.rjustD, PM.negD, List.length_cons, List.length_nil, List.getElem?_cons_zero, List.getElem?_cons_succ, List.set_cons_zero, List.set_cons_succ, List.map_cons, List.map_nil, List.cons_append, List.nil_append, List.append_nil, List.replicate, List.length_map, List.length_append, if_true, if_false, ite_true, ite_false, reduceIte, Bool.false_eq_true, decide_eq_true_eq, Option.map_some, Option.map_none, Option.bind_some, Option.bind_none, Option.some.injEq, Option.join, List.isEmpty_cons, List.isEmpty_nil, List.all_cons, List.all_nil, PM.owned, PM.noLS, PM.noL, PM.noLs, Bool.or_true, Bool.true_or, Bool.or_false, Bool.false_or, Bool.and_true, Bool.true_and, Bool.and_false, Bool.false_and, Bool.not_true, Bool.not_false, List.isEmpty_map, PM.setS, PM.augIxS, Nat.zero_add, Nat.reduceAdd, Nat.reduceSub, Nat.reduceLT, Nat.reduceEqDiff, e7, e8, show (0 : Int) < 61 by decide, show (0 : Int) < 13 by decide, d1, o1])]
  obtain ⟨x16, e16, a16, b16⟩ := hN.at (i := 16) (by decide) (by decide)
  obtain ⟨x17, e17, a17, b17⟩ := hN.at (i := 17) (by decide) (by decide)
  obtain ⟨n2, l2, d2⟩ := drawn_ok hN (a := 9) (s := x16 % 21) (by decide) (by decide) (by omega) (by omega)
  have o2 := one_ok (n := n2) (Nat.lt_of_lt_of_le l2 (by decide)) (more := x17 % 13) (by omega) (by omega)
  rw [seq_nx (ρ1 := [some (false, scr ns), some (true, .lst (l.map D.int)), none, none, none, none, none, none, none]) (by simp only [T3_law, PM.callE, PM.runF, PM.initE, PM.seqS, PM.asgS, PM.tgS, PM.parS, PM.appS, PM.augS, PM.dropS, PM.retS, PM.retN, PM.retV, PM.ifS, PM.forS, PM.M.thenS, PM.M.bind, PM.M.lift, PM.ret, PM.cst, PM.var, PM.pvar, PM.pk, PM.bin, PM.asB, PM.truth, PM.tru, PM.tand, PM.tor, PM.tnot, PM.vand, PM.vor, PM.vnot, PM.iff, PM.sli, PM.ono, PM.oin, PM.acons, PM.anil, PM.cnil, PM.cval, PM.cvw, PM.lstE, PM.tupE, PM.blt, PM.isi, PM.una, PM.smE, PM.src, PM.rng1, PM.rng2, PM.skip, PM.brkS, PM.cntS, PM.tgN, PM.itemsD, PM.tyD, PM.Ty.sub, PM.addD, PM.addIA, PM.subD, PM.mulD, PM.mulID, PM.fdivD, PM.modD, PM.powD, PM.ltD, PM.leD, PM.gtD, PM.geD, PM.cmpD, PM.eqD, PM.neD, PM.ixD, PM.sliceD, PM.lenD, PM.intD, PM.strD, PM.listD, PM.tupD, PM.joinD, PM.rjustD, PM.negD, List.length_cons, List.length_nil, List.getElem?_cons_zero, List.getElem?_cons_succ, List.set_cons_zero, List.set_cons_succ, List.map_cons, List.map_nil, List.cons_append, List.nil_append, List.append_nil, List.replicate, List.length_map, List.length_append, if_true, if_false, ite_true, ite_false, reduceIte, Bool.false_eq_true, decide_eq_true_eq, Option.map_some, Option.map_none, Option.bind_some, Option.bind_none, Option.some.injEq, Option.join, List.isEmpty_cons, List.isEmpty_nil, List.all_cons, List.all_nil, PM.owned, PM.noLS, PM.noL, PM.noLs, Bool.or_true, Bool.true_or, Bool.or_false, Bool.false_or, Bool.and_true, Bool.true_and, Bool.and_false, Bool.false_and, Bool.not_true, Bool.not_false, List.isEmpty_map, PM.setS, PM.augIxS, Nat.zero_add, Nat.reduceAdd, Nat.reduceSub, Nat.reduceLT, Nat.reduceEqDiff, e16, e17, show (0 : Int) < 21 by decide, show (0 : Int) < 13 by decide, d2, o2])]
  obtain ⟨x18, e18, a18, b18⟩ := hN.at (i := 18) (by decide) (by decide)
  have p3 := power_ok (k := x18 % 60) (by omega) (by omega)
  have hp0 := Nat.two_pow_pos (x18 % 60).toNat
  have hp1 : 2 ^ (x18 % 60).toNat ≤ 2 ^ 60 := Nat.pow_le_pow_right (by decide) (by omega)
  generalize hpw : 2 ^ (x18 % 60).toNat = pw at p3 hp0 hp1
  rw [seq_nx (ρ1 := [some (false, scr ns), some (true, .lst (l.map D.int)), some (false, .int (pw : Int)), none, none, none, none, none, none]) (by simp only [T4_law, PM.callE, PM.runF, PM.initE, PM.seqS, PM.asgS, PM.tgS, PM.parS, PM.appS, PM.augS, PM.dropS, PM.retS, PM.retN, PM.retV, PM.ifS, PM.forS, PM.M.thenS, PM.M.bind, PM.M.lift, PM.ret, PM.cst, PM.var, PM.pvar, PM.pk, PM.bin, PM.asB, PM.truth, PM.tru, PM.tand, PM.tor, PM.tnot, PM.vand, PM.vor, PM.vnot, PM.iff, PM.sli, PM.ono, PM.oin, PM.acons, PM.anil, PM.cnil, PM.cval, PM.cvw, PM.lstE, PM.tupE, PM.blt, PM.isi, PM.una, PM.smE, PM.src, PM.rng1, PM.rng2, PM.skip, PM.brkS, PM.cntS, PM.tgN, PM.itemsD, PM.tyD, PM.Ty.sub, PM.addD, PM.addIA, PM.subD, PM.mulD, PM.mulID, PM.fdivD, PM.modD, PM.powD, PM.ltD, PM.leD, PM.gtD, PM.geD, PM.cmpD, PM.eqD, PM.neD, PM.ixD, PM.sliceD, PM.lenD, PM.intD, PM.strD, PM.listD, PM.tupD, PM.joinD, PM.rjustD, PM.negD, List.length_cons, List.length_nil, List.getElem?_cons_zero, List.getElem?_cons_succ, List.set_cons_zero, List.set_cons_succ, List.map_cons, List.map_nil, List.cons_append, List.nil_append, List.append_nil, List.replicate, List.length_map, List.length_append, if_true, if_false, ite_true, ite_false, reduceIte, Bool.false_eq_true, decide_eq_true_eq, Option.map_some, Option.map_none, Option.bind_some, Option.bind_none, Option.some.injEq, Option.join, List.isEmpty_cons, List.isEmpty_nil, List.all_cons, List.all_nil, PM.owned, PM.noLS, PM.noL, PM.noLs, Bool.or_true, Bool.true_or, Bool.or_false, Bool.false_or, Bool.and_true, Bool.true_and, Bool.and_false, Bool.false_and, Bool.not_true, Bool.not_false, List.isEmpty_map, PM.setS, PM.augIxS, Nat.zero_add, Nat.reduceAdd, Nat.reduceSub, Nat.reduceLT, Nat.reduceEqDiff, e18, show (0 : Int) < 60 by decide, p3])]
  obtain ⟨d', e5⟩ := ones_loop [pw - 1, pw, pw + 1, 0, 1, 1048575] (some (false, scr ns)) (some (true, .lst (l.map D.int))) (some (false, .int (pw : Int))) none none none none none none l hN rfl fun n hn => by
    simp only [List.mem_cons, List.not_mem_nil, or_false] at hn
    omega
  have e5' : natsD [pw - 1, pw, pw + 1, 0, 1, 1048575] = [.int ((pw : Int) - 1), .int (pw : Int), .int ((pw : Int) + 1), .int 0, .int 1, .int 1048575] := by
    unfold natsD
    simp only [List.map_cons, List.map_nil]
    rw [show ((pw - 1 : Nat) : Int) = (pw : Int) - 1 by omega]
    rfl
  rw [e5'] at e5
  rw [seq_nx (ρ1 := [some (false, scr ns), some (true, .lst (l.map D.int)), some (false, .int (pw : Int)), d', none, none, none, none, none]) (by simp only [T5_law, PM.callE, PM.runF, PM.initE, PM.seqS, PM.asgS, PM.tgS, PM.parS, PM.appS, PM.augS, PM.dropS, PM.retS, PM.retN, PM.retV, PM.ifS, PM.forS, PM.M.thenS, PM.M.bind, PM.M.lift, PM.ret, PM.cst, PM.var, PM.pvar, PM.pk, PM.bin, PM.asB, PM.truth, PM.tru, PM.tand, PM.tor, PM.tnot, PM.vand, PM.vor, PM.vnot, PM.iff, PM.sli, PM.ono, PM.oin, PM.acons, PM.anil, PM.cnil, PM.cval, PM.cvw, PM.lstE, PM.tupE, PM.blt, PM.isi, PM.una, PM.smE, PM.src, PM.rng1, PM.rng2, PM.skip, PM.brkS, PM.cntS, PM.tgN, PM.itemsD, PM.tyD, PM.Ty.sub, PM.addD, PM.addIA, PM.subD, PM.mulD, PM.mulID, PM.fdivD, PM.modD, PM.powD, PM.ltD, PM.leD, PM.gtD, PM.geD, PM.cmpD, PM.eqD, PM.neD, PM.ixD, PM.sliceD, PM.lenD, PM.intD, PM.strD, PM.listD, PM.tupD, PM.joinD, PM.rjustD, PM.negD, List.length_cons, List.length_nil, List.getElem?_cons_zero, List.getElem?_cons_succ, List.set_cons_zero, List.set_cons_succ, List.map_cons, List.map_nil, List.cons_append, List.nil_append, List.append_nil, List.replicate, List.length_map, List.length_append, if_true, if_false, ite_true, ite_false, reduceIte, Bool.false_eq_true, decide_eq_true_eq, Option.map_some, Option.map_none, Option.bind_some, Option.bind_none, Option.some.injEq, Option.join, List.isEmpty_cons, List.isEmpty_nil, List.all_cons, List.all_nil, PM.owned, PM.noLS, PM.noL, PM.noLs, Bool.or_true, Bool.true_or, Bool.or_false, Bool.false_or, Bool.and_true, Bool.true_and, Bool.and_false, Bool.false_and, Bool.not_true, Bool.not_false, List.isEmpty_map, PM.setS, PM.augIxS, Nat.zero_add, Nat.reduceAdd, Nat.reduceSub, Nat.reduceLT, Nat.reduceEqDiff, show 6 ≤ sizeLine by decide, e5])]
  obtain ⟨x45, e45, a45, b45⟩ := hN.at (i := 45) (by decide) (by decide)
  obtain ⟨bs, hB, hbl, e6⟩ := signs_loop (some (false, scr ns)) (some (false, .int (pw : Int))) d' none none none none l hN (intsR 0 (x45 % 20).toNat) (intsR_lt (by omega))
  rw [intsR_len] at hbl
  have hX : X1_law [some (false, scr ns), some (true, .lst (l.map D.int)), some (false, .int (pw : Int)), d', none, none, none, none, none] = .ok (true, .lst (bs.map fun c => D.str [c])) [some (false, scr ns), some (true, .lst (l.map D.int)), some (false, .int (pw : Int)), d', none, none, none, none, none] := by
    refine lc_ok (ds := intsR 0 (x45 % 20).toNat) (ρ1 := [some (false, scr ns), some (true, .lst (l.map D.int)), some (false, .int (pw : Int)), d', none, none, none, none, none]) ?_ rfl (by rw [intsR_len, sl_eq]; omega) e6
    simp only [PM.callE, PM.runF, PM.initE, PM.seqS, PM.asgS, PM.tgS, PM.parS, PM.appS, PM.augS, PM.dropS, PM.retS, PM.retN, PM.retV, PM.ifS, PM.forS, PM.M.thenS, PM.M.bind, PM.M.lift, PM.ret, PM.cst, PM.var, PM.pvar, PM.pk, PM.bin, PM.asB, PM.truth, PM.tru, PM.tand, PM.tor, PM.tnot, PM.vand, PM.vor, PM.vnot, PM.iff, PM.sli, PM.ono, PM.oin, PM.acons, PM.anil, PM.cnil, PM.cval, PM.cvw, PM.lstE, PM.tupE, PM.blt, PM.isi, PM.una, PM.smE, PM.src, PM.rng1, PM.rng2, PM.skip, PM.brkS, PM.cntS, PM.tgN, PM.itemsD, PM.tyD, PM.Ty.sub, PM.addD, PM.addIA, PM.subD, PM.mulD, PM.mulID, PM.fdivD, PM.modD, PM.powD, PM.ltD, PM.leD, PM.gtD, PM.geD, PM.cmpD, PM.eqD, PM.neD, PM.ixD, PM.sliceD, PM.lenD, PM.intD, PM.strD, PM.listD, PM.tupD, PM.joinD, PM.rjustD, PM.negD, List.length_cons, List.length_nil, List.getElem?_cons_zero, List.getElem?_cons_succ, List.set_cons_zero, List.set_cons_succ, List.map_cons, List.map_nil, List.cons_append, List.nil_append, List.append_nil, List.replicate, List.length_map, List.length_append, if_true, if_false, ite_true, ite_false, reduceIte, Bool.false_eq_true, decide_eq_true_eq, Option.map_some, Option.map_none, Option.bind_some, Option.bind_none, Option.some.injEq, Option.join, List.isEmpty_cons, List.isEmpty_nil, List.all_cons, List.all_nil, PM.owned, PM.noLS, PM.noL, PM.noLs, Bool.or_true, Bool.true_or, Bool.or_false, Bool.false_or, Bool.and_true, Bool.true_and, Bool.and_false, Bool.false_and, Bool.not_true, Bool.not_false, List.isEmpty_map, PM.setS, PM.augIxS, Nat.zero_add, Nat.reduceAdd, Nat.reduceSub, Nat.reduceLT, Nat.reduceEqDiff, e45, show (0 : Int) < 20 by decide, show -(2 ^ 62) ≤ x45 % 20 ∧ x45 % 20 < 2 ^ 62 by omega, and_self]
  have hj : (bs.length + (bs.map fun c => [c]).length * 0 ≤ 16777216) := by omega
  rw [seq_nx (ρ1 := [some (false, scr ns), some (true, .lst (l.map D.int)), some (false, .int (pw : Int)), d', some (false, .str bs), none, none, none, none]) (by simp only [T6_law, PM.callE, PM.runF, PM.initE, PM.seqS, PM.asgS, PM.tgS, PM.parS, PM.appS, PM.augS, PM.dropS, PM.retS, PM.retN, PM.retV, PM.ifS, PM.forS, PM.M.thenS, PM.M.bind, PM.M.lift, PM.ret, PM.cst, PM.var, PM.pvar, PM.pk, PM.bin, PM.asB, PM.truth, PM.tru, PM.tand, PM.tor, PM.tnot, PM.vand, PM.vor, PM.vnot, PM.iff, PM.sli, PM.ono, PM.oin, PM.acons, PM.anil, PM.cnil, PM.cval, PM.cvw, PM.lstE, PM.tupE, PM.blt, PM.isi, PM.una, PM.smE, PM.src, PM.rng1, PM.rng2, PM.skip, PM.brkS, PM.cntS, PM.tgN, PM.itemsD, PM.tyD, PM.Ty.sub, PM.addD, PM.addIA, PM.subD, PM.mulD, PM.mulID, PM.fdivD, PM.modD, PM.powD, PM.ltD, PM.leD, PM.gtD, PM.geD, PM.cmpD, PM.eqD, PM.neD, PM.ixD, PM.sliceD, PM.lenD, PM.intD, PM.strD, PM.listD, PM.tupD, PM.joinD, PM.rjustD, PM.negD, List.length_cons, List.length_nil, List.getElem?_cons_zero, List.getElem?_cons_succ, List.set_cons_zero, List.set_cons_succ, List.map_cons, List.map_nil, List.cons_append, List.nil_append, List.append_nil, List.replicate, List.length_map, List.length_append, if_true, if_false, ite_true, ite_false, reduceIte, Bool.false_eq_true, decide_eq_true_eq, Option.map_some, Option.map_none, Option.bind_some, Option.bind_none, Option.some.injEq, Option.join, List.isEmpty_cons, List.isEmpty_nil, List.all_cons, List.all_nil, PM.owned, PM.noLS, PM.noL, PM.noLs, Bool.or_true, Bool.true_or, Bool.or_false, Bool.false_or, Bool.and_true, Bool.true_and, Bool.and_false, Bool.false_and, Bool.not_true, Bool.not_false, List.isEmpty_map, PM.setS, PM.augIxS, Nat.zero_add, Nat.reduceAdd, Nat.reduceSub, Nat.reduceLT, Nat.reduceEqDiff, hX, strsD_signs, sum_signs, hj, joinL_signs, Nat.mul_zero, Nat.add_zero, show bs.length ≤ 16777216 by omega])]
  have hz : bs.length ≤ sizeLine := by rw [sl_eq]; omega
  have hnb : nb 0 bs < 2 ^ 100 := by
    have : ∀ (bs : List Nat) (a k : Nat), a < 2 ^ k → nb a bs < 2 ^ (k + bs.length) := by
      intro bs
      induction bs with
      | nil => intro a k h; exact h
      | cons c bs ih =>
        intro a k h
        have := ih (2 * a + (if c = 49 then 1 else 0)) (k + 1) (by rw [Nat.pow_succ]; split <;> omega)
        rw [List.length_cons, show k + (bs.length + 1) = k + 1 + bs.length by omega]
        exact this
    have h1 := this bs 0 0 (by decide)
    exact Nat.lt_of_lt_of_le h1 (Nat.pow_le_pow_right (by decide) (by omega))
  have hwide := wide_text_ok hnb (s := (bs.length : Int)) (by omega) (by omega)
  rw [show ((bs.length : Nat) : Int).toNat = bs.length from rfl, (bl_nb bs.length bs rfl hB).2] at hwide
  rw [seq_nx (ρ1 := [some (false, scr ns), some (true, .lst (l.map D.int)), some (false, .int (pw : Int)), d', some (false, .str bs), none, none, none, none]) (by simp only [T7_law, PM.callE, PM.runF, PM.initE, PM.seqS, PM.asgS, PM.tgS, PM.parS, PM.appS, PM.augS, PM.dropS, PM.retS, PM.retN, PM.retV, PM.ifS, PM.forS, PM.M.thenS, PM.M.bind, PM.M.lift, PM.ret, PM.cst, PM.var, PM.pvar, PM.pk, PM.bin, PM.asB, PM.truth, PM.tru, PM.tand, PM.tor, PM.tnot, PM.vand, PM.vor, PM.vnot, PM.iff, PM.sli, PM.ono, PM.oin, PM.acons, PM.anil, PM.cnil, PM.cval, PM.cvw, PM.lstE, PM.tupE, PM.blt, PM.isi, PM.una, PM.smE, PM.src, PM.rng1, PM.rng2, PM.skip, PM.brkS, PM.cntS, PM.tgN, PM.itemsD, PM.tyD, PM.Ty.sub, PM.addD, PM.addIA, PM.subD, PM.mulD, PM.mulID, PM.fdivD, PM.modD, PM.powD, PM.ltD, PM.leD, PM.gtD, PM.geD, PM.cmpD, PM.eqD, PM.neD, PM.ixD, PM.sliceD, PM.lenD, PM.intD, PM.strD, PM.listD, PM.tupD, PM.joinD, PM.rjustD, PM.negD, List.length_cons, List.length_nil, List.getElem?_cons_zero, List.getElem?_cons_succ, List.set_cons_zero, List.set_cons_succ, List.map_cons, List.map_nil, List.cons_append, List.nil_append, List.append_nil, List.replicate, List.length_map, List.length_append, if_true, if_false, ite_true, ite_false, reduceIte, Bool.false_eq_true, decide_eq_true_eq, Option.map_some, Option.map_none, Option.bind_some, Option.bind_none, Option.some.injEq, Option.join, List.isEmpty_cons, List.isEmpty_nil, List.all_cons, List.all_nil, PM.owned, PM.noLS, PM.noL, PM.noLs, Bool.or_true, Bool.true_or, Bool.or_false, Bool.false_or, Bool.and_true, Bool.true_and, Bool.and_false, Bool.false_and, Bool.not_true, Bool.not_false, List.isEmpty_map, PM.setS, PM.augIxS, Nat.zero_add, Nat.reduceAdd, Nat.reduceSub, Nat.reduceLT, Nat.reduceEqDiff, number_of_bits_ok hB, worth_ok hB, is_number_ok, hz, hwide, is_text_ok (isB_okS hB)])]
  have hB1 : isB (49 :: bs) := fun c hc => by
    rcases List.mem_cons.mp hc with e | hc
    · exact .inr e
    · exact hB c hc
  rw [seq_nx (ρ1 := [some (false, scr ns), some (true, .lst (l.map D.int)), some (false, .int (pw : Int)), d', some (false, .str bs), none, none, none, none]) (by simp only [T8_law, PM.callE, PM.runF, PM.initE, PM.seqS, PM.asgS, PM.tgS, PM.parS, PM.appS, PM.augS, PM.dropS, PM.retS, PM.retN, PM.retV, PM.ifS, PM.forS, PM.M.thenS, PM.M.bind, PM.M.lift, PM.ret, PM.cst, PM.var, PM.pvar, PM.pk, PM.bin, PM.asB, PM.truth, PM.tru, PM.tand, PM.tor, PM.tnot, PM.vand, PM.vor, PM.vnot, PM.iff, PM.sli, PM.ono, PM.oin, PM.acons, PM.anil, PM.cnil, PM.cval, PM.cvw, PM.lstE, PM.tupE, PM.blt, PM.isi, PM.una, PM.smE, PM.src, PM.rng1, PM.rng2, PM.skip, PM.brkS, PM.cntS, PM.tgN, PM.itemsD, PM.tyD, PM.Ty.sub, PM.addD, PM.addIA, PM.subD, PM.mulD, PM.mulID, PM.fdivD, PM.modD, PM.powD, PM.ltD, PM.leD, PM.gtD, PM.geD, PM.cmpD, PM.eqD, PM.neD, PM.ixD, PM.sliceD, PM.lenD, PM.intD, PM.strD, PM.listD, PM.tupD, PM.joinD, PM.rjustD, PM.negD, List.length_cons, List.length_nil, List.getElem?_cons_zero, List.getElem?_cons_succ, List.set_cons_zero, List.set_cons_succ, List.map_cons, List.map_nil, List.cons_append, List.nil_append, List.append_nil, List.replicate, List.length_map, List.length_append, if_true, if_false, ite_true, ite_false, reduceIte, Bool.false_eq_true, decide_eq_true_eq, Option.map_some, Option.map_none, Option.bind_some, Option.bind_none, Option.some.injEq, Option.join, List.isEmpty_cons, List.isEmpty_nil, List.all_cons, List.all_nil, PM.owned, PM.noLS, PM.noL, PM.noLs, Bool.or_true, Bool.true_or, Bool.or_false, Bool.false_or, Bool.and_true, Bool.true_and, Bool.and_false, Bool.false_and, Bool.not_true, Bool.not_false, List.isEmpty_map, PM.setS, PM.augIxS, Nat.zero_add, Nat.reduceAdd, Nat.reduceSub, Nat.reduceLT, Nat.reduceEqDiff, hz, number_of_ok hB (show (0 : Int) < (bs.length : Int) + 1 by omega) (show bs.length ≤ 1000 by omega), show 1 + bs.length ≤ sizeLine by rw [sl_eq]; omega, worth_ok hB1, is_number_ok])]
  rw [seq_nx (ρ1 := [some (false, scr ns), some (true, .lst (l.map D.int)), some (false, .int (pw : Int)), d', some (false, .str bs), some (true, .lst (m.map D.int)), none, none, none]) (by simp only [T9_law, PM.callE, PM.runF, PM.initE, PM.seqS, PM.asgS, PM.tgS, PM.parS, PM.appS, PM.augS, PM.dropS, PM.retS, PM.retN, PM.retV, PM.ifS, PM.forS, PM.M.thenS, PM.M.bind, PM.M.lift, PM.ret, PM.cst, PM.var, PM.pvar, PM.pk, PM.bin, PM.asB, PM.truth, PM.tru, PM.tand, PM.tor, PM.tnot, PM.vand, PM.vor, PM.vnot, PM.iff, PM.sli, PM.ono, PM.oin, PM.acons, PM.anil, PM.cnil, PM.cval, PM.cvw, PM.lstE, PM.tupE, PM.blt, PM.isi, PM.una, PM.smE, PM.src, PM.rng1, PM.rng2, PM.skip, PM.brkS, PM.cntS, PM.tgN, PM.itemsD, PM.tyD, PM.Ty.sub, PM.addD, PM.addIA, PM.subD, PM.mulD, PM.mulID, PM.fdivD, PM.modD, PM.powD, PM.ltD, PM.leD, PM.gtD, PM.geD, PM.cmpD, PM.eqD, PM.neD, PM.ixD, PM.sliceD, PM.lenD, PM.intD, PM.strD, PM.listD, PM.tupD, PM.joinD, PM.rjustD, PM.negD, List.length_cons, List.length_nil, List.getElem?_cons_zero, List.getElem?_cons_succ, List.set_cons_zero, List.set_cons_succ, List.map_cons, List.map_nil, List.cons_append, List.nil_append, List.append_nil, List.replicate, List.length_map, List.length_append, if_true, if_false, ite_true, ite_false, reduceIte, Bool.false_eq_true, decide_eq_true_eq, Option.map_some, Option.map_none, Option.bind_some, Option.bind_none, Option.some.injEq, Option.join, List.isEmpty_cons, List.isEmpty_nil, List.all_cons, List.all_nil, PM.owned, PM.noLS, PM.noL, PM.noLs, Bool.or_true, Bool.true_or, Bool.or_false, Bool.false_or, Bool.and_true, Bool.true_and, Bool.and_false, Bool.false_and, Bool.not_true, Bool.not_false, List.isEmpty_map, PM.setS, PM.augIxS, Nat.zero_add, Nat.reduceAdd, Nat.reduceSub, Nat.reduceLT, Nat.reduceEqDiff, eM])]
  rw [seq_nx (ρ1 := [some (false, scr ns), some (true, .lst (l.map D.int)), some (false, .int (pw : Int)), d', some (false, .str bs), some (true, .lst (m.map D.int)), some (true, .lst []), none, none]) (by simp only [T10_law, PM.callE, PM.runF, PM.initE, PM.seqS, PM.asgS, PM.tgS, PM.parS, PM.appS, PM.augS, PM.dropS, PM.retS, PM.retN, PM.retV, PM.ifS, PM.forS, PM.M.thenS, PM.M.bind, PM.M.lift, PM.ret, PM.cst, PM.var, PM.pvar, PM.pk, PM.bin, PM.asB, PM.truth, PM.tru, PM.tand, PM.tor, PM.tnot, PM.vand, PM.vor, PM.vnot, PM.iff, PM.sli, PM.ono, PM.oin, PM.acons, PM.anil, PM.cnil, PM.cval, PM.cvw, PM.lstE, PM.tupE, PM.blt, PM.isi, PM.una, PM.smE, PM.src, PM.rng1, PM.rng2, PM.skip, PM.brkS, PM.cntS, PM.tgN, PM.itemsD, PM.tyD, PM.Ty.sub, PM.addD, PM.addIA, PM.subD, PM.mulD, PM.mulID, PM.fdivD, PM.modD, PM.powD, PM.ltD, PM.leD, PM.gtD, PM.geD, PM.cmpD, PM.eqD, PM.neD, PM.ixD, PM.sliceD, PM.lenD, PM.intD, PM.strD, PM.listD, PM.tupD, PM.joinD, PM.rjustD, PM.negD, List.length_cons, List.length_nil, List.getElem?_cons_zero, List.getElem?_cons_succ, List.set_cons_zero, List.set_cons_succ, List.map_cons, List.map_nil, List.cons_append, List.nil_append, List.append_nil, List.replicate, List.length_map, List.length_append, if_true, if_false, ite_true, ite_false, reduceIte, Bool.false_eq_true, decide_eq_true_eq, Option.map_some, Option.map_none, Option.bind_some, Option.bind_none, Option.some.injEq, Option.join, List.isEmpty_cons, List.isEmpty_nil, List.all_cons, List.all_nil, PM.owned, PM.noLS, PM.noL, PM.noLs, Bool.or_true, Bool.true_or, Bool.or_false, Bool.false_or, Bool.and_true, Bool.true_and, Bool.and_false, Bool.false_and, Bool.not_true, Bool.not_false, List.isEmpty_map, PM.setS, PM.augIxS, Nat.zero_add, Nat.reduceAdd, Nat.reduceSub, Nat.reduceLT, Nat.reduceEqDiff, show 0 ≤ sizeLine by decide])]
  obtain ⟨x46, e46, a46, b46⟩ := hN.at (i := 46) (by decide) (by decide)
  obtain ⟨qs, h', hq, hql, e11⟩ := more_loop l m hN hM (some (false, scr ns)) (some (false, .int (pw : Int))) d' (some (false, .str bs)) none (intsR 0 (x46 % 31).toNat) [] none (intsR_lt (by omega)) (by simp) (by rw [intsR_len, List.length_nil]; omega)
  rw [intsR_len, List.length_nil] at hql
  have e11 : forF (tgN 7) L2_law (intsR 0 (x46 % 31).toNat) [some (false, scr ns), some (true, .lst (l.map D.int)), some (false, .int (pw : Int)), d', some (false, .str bs), some (true, .lst (m.map D.int)), some (true, .lst []), none, none] = _ := e11
  rw [seq_nx (ρ1 := [some (false, scr ns), some (true, .lst (l.map D.int)), some (false, .int (pw : Int)), d', some (false, .str bs), some (true, .lst (m.map D.int)), some (true, .lst (natsD qs)), h', none]) (by simp only [T11_law, PM.callE, PM.runF, PM.initE, PM.seqS, PM.asgS, PM.tgS, PM.parS, PM.appS, PM.augS, PM.dropS, PM.retS, PM.retN, PM.retV, PM.ifS, PM.forS, PM.M.thenS, PM.M.bind, PM.M.lift, PM.ret, PM.cst, PM.var, PM.pvar, PM.pk, PM.bin, PM.asB, PM.truth, PM.tru, PM.tand, PM.tor, PM.tnot, PM.vand, PM.vor, PM.vnot, PM.iff, PM.sli, PM.ono, PM.oin, PM.acons, PM.anil, PM.cnil, PM.cval, PM.cvw, PM.lstE, PM.tupE, PM.blt, PM.isi, PM.una, PM.smE, PM.src, PM.rng1, PM.rng2, PM.skip, PM.brkS, PM.cntS, PM.tgN, PM.itemsD, PM.tyD, PM.Ty.sub, PM.addD, PM.addIA, PM.subD, PM.mulD, PM.mulID, PM.fdivD, PM.modD, PM.powD, PM.ltD, PM.leD, PM.gtD, PM.geD, PM.cmpD, PM.eqD, PM.neD, PM.ixD, PM.sliceD, PM.lenD, PM.intD, PM.strD, PM.listD, PM.tupD, PM.joinD, PM.rjustD, PM.negD, List.length_cons, List.length_nil, List.getElem?_cons_zero, List.getElem?_cons_succ, List.set_cons_zero, List.set_cons_succ, List.map_cons, List.map_nil, List.cons_append, List.nil_append, List.append_nil, List.replicate, List.length_map, List.length_append, if_true, if_false, ite_true, ite_false, reduceIte, Bool.false_eq_true, decide_eq_true_eq, Option.map_some, Option.map_none, Option.bind_some, Option.bind_none, Option.some.injEq, Option.join, List.isEmpty_cons, List.isEmpty_nil, List.all_cons, List.all_nil, PM.owned, PM.noLS, PM.noL, PM.noLs, Bool.or_true, Bool.true_or, Bool.or_false, Bool.false_or, Bool.and_true, Bool.true_and, Bool.and_false, Bool.false_and, Bool.not_true, Bool.not_false, List.isEmpty_map, PM.setS, PM.augIxS, Nat.zero_add, Nat.reduceAdd, Nat.reduceSub, Nat.reduceLT, Nat.reduceEqDiff, e46, show (0 : Int) < 31 by decide, show -(2 ^ 62) ≤ x46 % 31 ∧ x46 % 31 < 2 ^ 62 by omega, and_self, e11])]
  rw [seq_nx (ρ1 := [some (false, scr ns), some (true, .lst (l.map D.int)), some (false, .int (pw : Int)), d', some (false, .str bs), some (true, .lst (m.map D.int)), some (true, .lst (natsD qs)), h', some (true, .lst (natsD qs))]) (by simp only [T12_law, PM.callE, PM.runF, PM.initE, PM.seqS, PM.asgS, PM.tgS, PM.parS, PM.appS, PM.augS, PM.dropS, PM.retS, PM.retN, PM.retV, PM.ifS, PM.forS, PM.M.thenS, PM.M.bind, PM.M.lift, PM.ret, PM.cst, PM.var, PM.pvar, PM.pk, PM.bin, PM.asB, PM.truth, PM.tru, PM.tand, PM.tor, PM.tnot, PM.vand, PM.vor, PM.vnot, PM.iff, PM.sli, PM.ono, PM.oin, PM.acons, PM.anil, PM.cnil, PM.cval, PM.cvw, PM.lstE, PM.tupE, PM.blt, PM.isi, PM.una, PM.smE, PM.src, PM.rng1, PM.rng2, PM.skip, PM.brkS, PM.cntS, PM.tgN, PM.itemsD, PM.tyD, PM.Ty.sub, PM.addD, PM.addIA, PM.subD, PM.mulD, PM.mulID, PM.fdivD, PM.modD, PM.powD, PM.ltD, PM.leD, PM.gtD, PM.geD, PM.cmpD, PM.eqD, PM.neD, PM.ixD, PM.sliceD, PM.lenD, PM.intD, PM.strD, PM.listD, PM.tupD, PM.joinD, PM.rjustD, PM.negD, List.length_cons, List.length_nil, List.getElem?_cons_zero, List.getElem?_cons_succ, List.set_cons_zero, List.set_cons_succ, List.map_cons, List.map_nil, List.cons_append, List.nil_append, List.append_nil, List.replicate, List.length_map, List.length_append, if_true, if_false, ite_true, ite_false, reduceIte, Bool.false_eq_true, decide_eq_true_eq, Option.map_some, Option.map_none, Option.bind_some, Option.bind_none, Option.some.injEq, Option.join, List.isEmpty_cons, List.isEmpty_nil, List.all_cons, List.all_nil, PM.owned, PM.noLS, PM.noL, PM.noLs, Bool.or_true, Bool.true_or, Bool.or_false, Bool.false_or, Bool.and_true, Bool.true_and, Bool.and_false, Bool.false_and, Bool.not_true, Bool.not_false, List.isEmpty_map, PM.setS, PM.augIxS, Nat.zero_add, Nat.reduceAdd, Nat.reduceSub, Nat.reduceLT, Nat.reduceEqDiff])]
  have eqq : eqvD (.lst (natsD qs)) (.lst (natsD qs)) = some true := by
    rw [natsD_map, eqv_ints]; simp
  have hcat' : D.int 0 :: .int 1 :: .int 1048575 :: .int 524288 :: .int 524287 :: natsD qs = natsD (0 :: 1 :: 1048575 :: 524288 :: 524287 :: qs) := rfl
  have hqs : ∀ n ∈ 0 :: 1 :: 1048575 :: 524288 :: 524287 :: qs, n < 2 ^ 20 := fun n hn => by
    simp only [List.mem_cons] at hn
    rcases hn with h | h | h | h | h | h
    · omega
    · omega
    · omega
    · omega
    · omega
    · exact hq n h
  have hln : (natsD qs).length = qs.length := by unfold natsD; simp
  rw [seq_nx (ρ1 := [some (false, scr ns), some (true, .lst (l.map D.int)), some (false, .int (pw : Int)), d', some (false, .str bs), some (true, .lst (m.map D.int)), some (true, .lst (natsD qs)), h', some (true, .lst (natsD qs))]) (by simp only [T13_law, PM.callE, PM.runF, PM.initE, PM.seqS, PM.asgS, PM.tgS, PM.parS, PM.appS, PM.augS, PM.dropS, PM.retS, PM.retN, PM.retV, PM.ifS, PM.forS, PM.M.thenS, PM.M.bind, PM.M.lift, PM.ret, PM.cst, PM.var, PM.pvar, PM.pk, PM.bin, PM.asB, PM.truth, PM.tru, PM.tand, PM.tor, PM.tnot, PM.vand, PM.vor, PM.vnot, PM.iff, PM.sli, PM.ono, PM.oin, PM.acons, PM.anil, PM.cnil, PM.cval, PM.cvw, PM.lstE, PM.tupE, PM.blt, PM.isi, PM.una, PM.smE, PM.src, PM.rng1, PM.rng2, PM.skip, PM.brkS, PM.cntS, PM.tgN, PM.itemsD, PM.tyD, PM.Ty.sub, PM.addD, PM.addIA, PM.subD, PM.mulD, PM.mulID, PM.fdivD, PM.modD, PM.powD, PM.ltD, PM.leD, PM.gtD, PM.geD, PM.cmpD, PM.eqD, PM.neD, PM.ixD, PM.sliceD, PM.lenD, PM.intD, PM.strD, PM.listD, PM.tupD, PM.joinD, PM.rjustD, PM.negD, List.length_cons, List.length_nil, List.getElem?_cons_zero, List.getElem?_cons_succ, List.set_cons_zero, List.set_cons_succ, List.map_cons, List.map_nil, List.cons_append, List.nil_append, List.append_nil, List.replicate, List.length_map, List.length_append, if_true, if_false, ite_true, ite_false, reduceIte, Bool.false_eq_true, decide_eq_true_eq, Option.map_some, Option.map_none, Option.bind_some, Option.bind_none, Option.some.injEq, Option.join, List.isEmpty_cons, List.isEmpty_nil, List.all_cons, List.all_nil, PM.owned, PM.noLS, PM.noL, PM.noLs, Bool.or_true, Bool.true_or, Bool.or_false, Bool.false_or, Bool.and_true, Bool.true_and, Bool.and_false, Bool.false_and, Bool.not_true, Bool.not_false, List.isEmpty_map, PM.setS, PM.augIxS, Nat.zero_add, Nat.reduceAdd, Nat.reduceSub, Nat.reduceLT, Nat.reduceEqDiff, counted_ok hq, eqq, show 5 ≤ sizeLine by decide, hln, show 5 + qs.length ≤ sizeLine by rw [sl_eq]; omega, hcat', counted_ok hqs])]
  have hap : natsD qs ++ [.int 7] = natsD (qs ++ [7]) := by
    unfold natsD
    rw [List.map_append]
    rfl
  rw [seq_nx (ρ1 := [some (false, scr ns), some (true, .lst (l.map D.int)), some (false, .int (pw : Int)), d', some (false, .str bs), some (true, .lst (m.map D.int)), some (true, .lst (natsD (qs ++ [7]))), h', some (true, .lst (natsD qs))]) (by simp only [T14_law, PM.callE, PM.runF, PM.initE, PM.seqS, PM.asgS, PM.tgS, PM.parS, PM.appS, PM.augS, PM.dropS, PM.retS, PM.retN, PM.retV, PM.ifS, PM.forS, PM.M.thenS, PM.M.bind, PM.M.lift, PM.ret, PM.cst, PM.var, PM.pvar, PM.pk, PM.bin, PM.asB, PM.truth, PM.tru, PM.tand, PM.tor, PM.tnot, PM.vand, PM.vor, PM.vnot, PM.iff, PM.sli, PM.ono, PM.oin, PM.acons, PM.anil, PM.cnil, PM.cval, PM.cvw, PM.lstE, PM.tupE, PM.blt, PM.isi, PM.una, PM.smE, PM.src, PM.rng1, PM.rng2, PM.skip, PM.brkS, PM.cntS, PM.tgN, PM.itemsD, PM.tyD, PM.Ty.sub, PM.addD, PM.addIA, PM.subD, PM.mulD, PM.mulID, PM.fdivD, PM.modD, PM.powD, PM.ltD, PM.leD, PM.gtD, PM.geD, PM.cmpD, PM.eqD, PM.neD, PM.ixD, PM.sliceD, PM.lenD, PM.intD, PM.strD, PM.listD, PM.tupD, PM.joinD, PM.rjustD, PM.negD, List.length_cons, List.length_nil, List.getElem?_cons_zero, List.getElem?_cons_succ, List.set_cons_zero, List.set_cons_succ, List.map_cons, List.map_nil, List.cons_append, List.nil_append, List.append_nil, List.replicate, List.length_map, List.length_append, if_true, if_false, ite_true, ite_false, reduceIte, Bool.false_eq_true, decide_eq_true_eq, Option.map_some, Option.map_none, Option.bind_some, Option.bind_none, Option.some.injEq, Option.join, List.isEmpty_cons, List.isEmpty_nil, List.all_cons, List.all_nil, PM.owned, PM.noLS, PM.noL, PM.noLs, Bool.or_true, Bool.true_or, Bool.or_false, Bool.false_or, Bool.and_true, Bool.true_and, Bool.and_false, Bool.false_and, Bool.not_true, Bool.not_false, List.isEmpty_map, PM.setS, PM.augIxS, Nat.zero_add, Nat.reduceAdd, Nat.reduceSub, Nat.reduceLT, Nat.reduceEqDiff, hln, show qs.length < sizeLine by rw [sl_eq]; omega, hap])]
  have hq7 : ∀ n ∈ qs ++ [7], n < 2 ^ 20 := fun n hn => by
    rcases List.mem_append.mp hn with hn | hn
    · exact hq n hn
    · have : n = 7 := by simpa using hn
      omega
  have h0 := counted_ok (ns := []) (by simp)
  have h0 : M__law_counted [.lst []] = _ := h0
  simp only [T15_law, PM.callE, PM.runF, PM.initE, PM.seqS, PM.asgS, PM.tgS, PM.parS, PM.appS, PM.augS, PM.dropS, PM.retS, PM.retN, PM.retV, PM.ifS, PM.forS, PM.M.thenS, PM.M.bind, PM.M.lift, PM.ret, PM.cst, PM.var, PM.pvar, PM.pk, PM.bin, PM.asB, PM.truth, PM.tru, PM.tand, PM.tor, PM.tnot, PM.vand, PM.vor, PM.vnot, PM.iff, PM.sli, PM.ono, PM.oin, PM.acons, PM.anil, PM.cnil, PM.cval, PM.cvw, PM.lstE, PM.tupE, PM.blt, PM.isi, PM.una, PM.smE, PM.src, PM.rng1, PM.rng2, PM.skip, PM.brkS, PM.cntS, PM.tgN, PM.itemsD, PM.tyD, PM.Ty.sub, PM.addD, PM.addIA, PM.subD, PM.mulD, PM.mulID, PM.fdivD, PM.modD, PM.powD, PM.ltD, PM.leD, PM.gtD, PM.geD, PM.cmpD, PM.eqD, PM.neD, PM.ixD, PM.sliceD, PM.lenD, PM.intD, PM.strD, PM.listD, PM.tupD, PM.joinD, PM.rjustD, PM.negD, List.length_cons, List.length_nil, List.getElem?_cons_zero, List.getElem?_cons_succ, List.set_cons_zero, List.set_cons_succ, List.map_cons, List.map_nil, List.cons_append, List.nil_append, List.append_nil, List.replicate, List.length_map, List.length_append, if_true, if_false, ite_true, ite_false, reduceIte, Bool.false_eq_true, decide_eq_true_eq, Option.map_some, Option.map_none, Option.bind_some, Option.bind_none, Option.some.injEq, Option.join, List.isEmpty_cons, List.isEmpty_nil, List.all_cons, List.all_nil, PM.owned, PM.noLS, PM.noL, PM.noLs, Bool.or_true, Bool.true_or, Bool.or_false, Bool.false_or, Bool.and_true, Bool.true_and, Bool.and_false, Bool.false_and, Bool.not_true, Bool.not_false, List.isEmpty_map, PM.setS, PM.augIxS, Nat.zero_add, Nat.reduceAdd, Nat.reduceSub, Nat.reduceLT, Nat.reduceEqDiff, counted_ok hq7, h0, show 0 ≤ sizeLine by decide]
end LawW
namespace LawW
open PySem PySem.Spec PyProof.Rows L2 PM
/-! ### the head -/
def D__law_numbers : He.DefD := ⟨("_law_numbers", none), "_law_numbers", "_law_numbers", defArgs s__law_numbers, defBody s__law_numbers, defScope s__law_numbers, [], []⟩
def D__law_text : He.DefD := ⟨("_law_text", none), "_law_text", "_law_text", defArgs s__law_text, defBody s__law_text, defScope s__law_text, [], []⟩
def D__law_is_text : He.DefD := ⟨("_law_is_text", none), "_law_is_text", "_law_is_text", defArgs s__law_is_text, defBody s__law_is_text, defScope s__law_is_text, [], []⟩
def D_bit_text : He.DefD := ⟨("bit_text", none), "bit_text", "bit_text", defArgs s_bit_text, defBody s_bit_text, defScope s_bit_text, [], []⟩
def D_rest_bits : He.DefD := ⟨("rest_bits", none), "rest_bits", "rest_bits", defArgs s_rest_bits, defBody s_rest_bits, defScope s_rest_bits, [], []⟩
def D_wide_text : He.DefD := ⟨("wide_text", none), "wide_text", "wide_text", defArgs s_wide_text, defBody s_wide_text, defScope s_wide_text, [], []⟩
def D__law_whole : He.DefD := ⟨("_law_whole", none), "_law_whole", "_law_whole", defArgs s__law_whole, defBody s__law_whole, defScope s__law_whole, [], []⟩
def D__law_is_number : He.DefD := ⟨("_law_is_number", none), "_law_is_number", "_law_is_number", defArgs s__law_is_number, defBody s__law_is_number, defScope s__law_is_number, [], []⟩
def D_bit_count : He.DefD := ⟨("bit_count", none), "bit_count", "bit_count", defArgs s_bit_count, defBody s_bit_count, defScope s_bit_count, [], []⟩
def D_number_of_bits : He.DefD := ⟨("number_of_bits", none), "number_of_bits", "number_of_bits", defArgs s_number_of_bits, defBody s_number_of_bits, defScope s_number_of_bits, [], []⟩
def D_class_of : He.DefD := ⟨("class_of", none), "class_of", "class_of", defArgs s_class_of, defBody s_class_of, defScope s_class_of, [], []⟩
def D_number_of : He.DefD := ⟨("number_of", none), "number_of", "number_of", defArgs s_number_of, defBody s_number_of, defScope s_number_of, [], []⟩
def D__law_one : He.DefD := ⟨("_law_one", none), "_law_one", "_law_one", defArgs s__law_one, defBody s__law_one, defScope s__law_one, [], []⟩
def D__law_power : He.DefD := ⟨("_law_power", none), "_law_power", "_law_power", defArgs s__law_power, defBody s__law_power, defScope s__law_power, [], []⟩
def D__law_drawn : He.DefD := ⟨("_law_drawn", none), "_law_drawn", "_law_drawn", defArgs s__law_drawn, defBody s__law_drawn, defScope s__law_drawn, [], []⟩
def D__law_worth : He.DefD := ⟨("_law_worth", none), "_law_worth", "_law_worth", defArgs s__law_worth, defBody s__law_worth, defScope s__law_worth, [], []⟩
def D_class_counts : He.DefD := ⟨("class_counts", none), "class_counts", "class_counts", defArgs s_class_counts, defBody s_class_counts, defScope s_class_counts, [], []⟩
def D__law_counted : He.DefD := ⟨("_law_counted", none), "_law_counted", "_law_counted", defArgs s__law_counted, defBody s__law_counted, defScope s__law_counted, [], []⟩
def D_law : He.DefD := ⟨("law", none), "law", "law", defArgs s_law, defBody s_law, defScope s_law, [], []⟩
def fn : List He.DefD := [D__law_numbers, D__law_text, D__law_is_text, D_bit_text, D_rest_bits, D_wide_text, D__law_whole, D__law_is_number, D_bit_count, D_number_of_bits, D_class_of, D_number_of, D__law_one, D__law_power, D__law_drawn, D__law_worth, D_class_counts, D__law_counted, D_law]
def fa : List He.Fa := [.glo "_law_numbers", .glo "_law_text", .glo "_law_is_text", .glo "bit_text", .glo "rest_bits", .glo "wide_text", .glo "_law_whole", .glo "_law_is_number", .glo "bit_count", .glo "number_of_bits", .glo "class_of", .glo "number_of", .glo "_law_one", .glo "_law_power", .glo "_law_drawn", .glo "_law_worth", .glo "class_counts", .glo "_law_counted", .glo "law", .free "bool", .free "int", .free "isinstance", .free "len", .free "list", .free "range", .free "str", .int "MOST_CLASS" 20]
abbrev R : PySem.W.OpenRow := PySem.W.OpenLaw.row PySem.Challenge.rw_inkedtrue_k66_bits_and_classes
abbrev hk : PySem.W.Hook := hookM 4 fa fn
def ob (s : PySem.W.SharedT) : AlM := obsM 4 fa fn (HandSHeadRun.getT s)
theorem ob_eq (s : PySem.W.SharedT) : ob s = hk.obs s.abs := obsM_eq (HandSHeadRun.getT_eq s)
abbrev loose : List Str := (["bit_text", "wide_text", "number_of_bits", "bit_count", "MOST_CLASS", "class_of", "rest_bits", "number_of", "class_counts", "_law_numbers", "_law_whole", "_law_power", "_law_drawn", "_law_text", "_law_worth", "_law_is_text", "_law_is_number", "_law_one", "_law_counted"] : List Str)
theorem run (w : World) : HandSHeadRun.RunEq R (PySem.W.view R.prog [21]) hk ob 4000 loose w := by
  intro os
  kernel_rfl
theorem facts {K : Fr} {h : Heap} {mg : Str → Option Value} (X : K.In h) (G : h.Ns mainGlobals mg) (c : He.SaysD fa fn K) : Nonempty (Fx K mg) := by
  obtain ⟨d__law_numbers, F__law_numbers⟩ := c.def_ 0 (d := D__law_numbers) rfl
  obtain ⟨d__law_text, F__law_text⟩ := c.def_ 1 (d := D__law_text) rfl
  obtain ⟨d__law_is_text, F__law_is_text⟩ := c.def_ 2 (d := D__law_is_text) rfl
  obtain ⟨d_bit_text, F_bit_text⟩ := c.def_ 3 (d := D_bit_text) rfl
  obtain ⟨d_rest_bits, F_rest_bits⟩ := c.def_ 4 (d := D_rest_bits) rfl
  obtain ⟨d_wide_text, F_wide_text⟩ := c.def_ 5 (d := D_wide_text) rfl
  obtain ⟨d__law_whole, F__law_whole⟩ := c.def_ 6 (d := D__law_whole) rfl
  obtain ⟨d__law_is_number, F__law_is_number⟩ := c.def_ 7 (d := D__law_is_number) rfl
  obtain ⟨d_bit_count, F_bit_count⟩ := c.def_ 8 (d := D_bit_count) rfl
  obtain ⟨d_number_of_bits, F_number_of_bits⟩ := c.def_ 9 (d := D_number_of_bits) rfl
  obtain ⟨d_class_of, F_class_of⟩ := c.def_ 10 (d := D_class_of) rfl
  obtain ⟨d_number_of, F_number_of⟩ := c.def_ 11 (d := D_number_of) rfl
  obtain ⟨d__law_one, F__law_one⟩ := c.def_ 12 (d := D__law_one) rfl
  obtain ⟨d__law_power, F__law_power⟩ := c.def_ 13 (d := D__law_power) rfl
  obtain ⟨d__law_drawn, F__law_drawn⟩ := c.def_ 14 (d := D__law_drawn) rfl
  obtain ⟨d__law_worth, F__law_worth⟩ := c.def_ 15 (d := D__law_worth) rfl
  obtain ⟨d_class_counts, F_class_counts⟩ := c.def_ 16 (d := D_class_counts) rfl
  obtain ⟨d__law_counted, F__law_counted⟩ := c.def_ 17 (d := D__law_counted) rfl
  obtain ⟨d_law, F_law⟩ := c.def_ 18 (d := D_law) rfl
  exact ⟨{ a__law_numbers := _, d__law_numbers := d__law_numbers, F__law_numbers := F__law_numbers, g__law_numbers := He.glo_ok X G (c.fact 0 rfl), a__law_text := _, d__law_text := d__law_text, F__law_text := F__law_text, g__law_text := He.glo_ok X G (c.fact 1 rfl), a__law_is_text := _, d__law_is_text := d__law_is_text, F__law_is_text := F__law_is_text, g__law_is_text := He.glo_ok X G (c.fact 2 rfl), a_bit_text := _, d_bit_text := d_bit_text, F_bit_text := F_bit_text, g_bit_text := He.glo_ok X G (c.fact 3 rfl), a_rest_bits := _, d_rest_bits := d_rest_bits, F_rest_bits := F_rest_bits, g_rest_bits := He.glo_ok X G (c.fact 4 rfl), a_wide_text := _, d_wide_text := d_wide_text, F_wide_text := F_wide_text, g_wide_text := He.glo_ok X G (c.fact 5 rfl), a__law_whole := _, d__law_whole := d__law_whole, F__law_whole := F__law_whole, g__law_whole := He.glo_ok X G (c.fact 6 rfl), a__law_is_number := _, d__law_is_number := d__law_is_number, F__law_is_number := F__law_is_number, g__law_is_number := He.glo_ok X G (c.fact 7 rfl), a_bit_count := _, d_bit_count := d_bit_count, F_bit_count := F_bit_count, g_bit_count := He.glo_ok X G (c.fact 8 rfl), a_number_of_bits := _, d_number_of_bits := d_number_of_bits, F_number_of_bits := F_number_of_bits, g_number_of_bits := He.glo_ok X G (c.fact 9 rfl), a_class_of := _, d_class_of := d_class_of, F_class_of := F_class_of, g_class_of := He.glo_ok X G (c.fact 10 rfl), a_number_of := _, d_number_of := d_number_of, F_number_of := F_number_of, g_number_of := He.glo_ok X G (c.fact 11 rfl), a__law_one := _, d__law_one := d__law_one, F__law_one := F__law_one, g__law_one := He.glo_ok X G (c.fact 12 rfl), a__law_power := _, d__law_power := d__law_power, F__law_power := F__law_power, g__law_power := He.glo_ok X G (c.fact 13 rfl), a__law_drawn := _, d__law_drawn := d__law_drawn, F__law_drawn := F__law_drawn, g__law_drawn := He.glo_ok X G (c.fact 14 rfl), a__law_worth := _, d__law_worth := d__law_worth, F__law_worth := F__law_worth, g__law_worth := He.glo_ok X G (c.fact 15 rfl), a_class_counts := _, d_class_counts := d_class_counts, F_class_counts := F_class_counts, g_class_counts := He.glo_ok X G (c.fact 16 rfl), a__law_counted := _, d__law_counted := d__law_counted, F__law_counted := F__law_counted, g__law_counted := He.glo_ok X G (c.fact 17 rfl), a_law := _, d_law := d_law, F_law := F_law, g_law := He.glo_ok X G (c.fact 18 rfl), m_bool := He.free_ok X G (c.fact 19 rfl), m_int := He.free_ok X G (c.fact 20 rfl), m_isinstance := He.free_ok X G (c.fact 21 rfl), m_len := He.free_ok X G (c.fact 22 rfl), m_list := He.free_ok X G (c.fact 23 rfl), m_range := He.free_ok X G (c.fact 24 rfl), m_str := He.free_ok X G (c.fact 25 rfl), c_MOST_CLASS := He.int_ok X G (c.fact 26 rfl) }⟩
end LawW
open PySem PySem.W PySem.Calls PyProof.Rows
theorem PySem.Challenge.cw_inkedtrue_k66_bits_and_classes_holds : PySem.Challenge.rw_inkedtrue_k66_bits_and_classes.Holds := by
  w_on; o_law
  refine HandSHeadRun.head_any (r := OpenLaw.row PySem.Challenge.rw_inkedtrue_k66_bits_and_classes) (q := view (OpenLaw.row PySem.Challenge.rw_inkedtrue_k66_bits_and_classes).prog [21]) (H := LawW.hk) (ob := LawW.ob) (M := 4000) (loose := LawW.loose) (d := HandSHeadRun.topDef (OpenLaw.row PySem.Challenge.rw_inkedtrue_k66_bits_and_classes).prog 21) (kwd := []) LawW.ob_eq
    (by kernel_rfl) (fun s => by kernel_rfl) LawW.run (by kernel_rfl) (by kernel_rfl) (by kernel_rfl) (by rfl) (by first | assumption | decide +kernel) (by decide +kernel) ⟨rfl, rfl, rfl, rfl, rfl, by decide +kernel⟩ ?hw ?hc
  case hw => w_witness2
  case hc =>
    refine L2.walk_ofE (l := PySem.Challenge.rw_inkedtrue_k66_bits_and_classes) (n := 63) (k := 5) (x := "script") (CX := PM.CXU (PySem.Challenge.rw_inkedtrue_k66_bits_and_classes).prog) rfl (by decide) (by kernel_rfl) ⟨rfl, by decide, by decide⟩ ?F (fun H s e s' h => PM.cxu_no H s e s' h)
    intro w mg fa h Y G hmg0
    obtain ⟨K, KX, c, hno⟩ := Y
    have hmg : mg ("law" : PySem.Str) = some (.ref fa) := by
      have e : (HandSHeadRun.topDef (OpenLaw.row PySem.Challenge.rw_inkedtrue_k66_bits_and_classes).prog 21).name = ("law" : PySem.Str) := by kernel_rfl
      rw [← e]
      exact hmg0
    obtain ⟨x⟩ := LawW.facts KX G c
    have e := hmg.symm.trans x.g_law
    have e : fa = x.a_law := by
      cases e
      rfl
    subst e
    have b := L2.FunD.bindsA (ps := ["script"]) x.F_law fun _ _ _ _ _ _ us hl => match us, hl with | [_], _ => rfl
    exact ⟨K, x.d_law, PM.spF K mg LawW.M_law 1, KX, fun s v => b s [v] rfl, fun H a ns hl _ hS => PM.law_sp hno LawW.law_true H a ns hl hS, fun base _ _ => PM.cxu (LawW.ok_law x)⟩
