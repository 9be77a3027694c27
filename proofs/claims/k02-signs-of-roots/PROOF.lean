import PyProof.Rows.All
import Wide.All
import OpenK.AllK
import Wide.FinOn
import HandS.Base
import HandS.Call
import HandS.List
import HandS.Comp
import HandS.Exc
import HandS.TryOnly
import HandS.ExcOwn
import HandS.CallSlots
import HandS.Words
import HandS.WordsExc
import HandS.Evl
import HandS.Text
import HandS.More
import HandS.Iter
import HandS.Wide
import HandS.WideBits
import HandS.TupAny
import HandS.IsInst
import HandS.Deep
import HandS.TupLe
import HandS.StrMore
import HandS.SortInts
import HandS.Gcd
import PyProof.Rows.StrPadWhole
import HandS.WideMore
import HandS.HeadHook1
import HandS.HeadHook2
import HandS.HeadNt
import HandS.Head0
import HandS.Head1
import HandS.Head2
import HandS.Head3
import HandS.HeadEnd
import HandS.Defaults
import KE.KStateDown
import OpenK.KEqL
import HandS.TryMany
import HandS.ExcIs
import HandS.ExcField
import HandS.Sort
import KE.KExcIs
import KE.KExcSuper
import HandS.ExcSuper
import HandS.ExcInit
import HandS.Nested
import HandS.Style
import KE.KRevSl
import HandS.Dict
import PyProof.Rows.RuleB_pow
import PySem.Challenge.RW_inkedtrue_k02_signs_of_roots
set_option Elab.async false
set_option linter.all false
set_option maxRecDepth 100000
set_option maxHeartbeats 0
namespace PM
open PySem L2

/-! ### data without addresses -/
inductive D where
  | non | bl (b : Bool) | int (i : Int) | str (s : List Nat)
  | lst (xs : List D) | tup (xs : List D) | dic (ks : List Key) (xs : List D) | raw (v : V)
instance : Inhabited D := ⟨.non⟩

abbrev Fr := PySem.W.Frag
abbrev st (s : List Nat) : Str := ⟨s.toArray⟩
def Sub (F H : Hp) : Prop := ∀ a o, F a = some o → H a = some o
theorem Sub.refl (H : Hp) : Sub H H := fun _ _ h => h
theorem Sub.trans {A B C : Hp} (h : Sub A B) (k : Sub B C) : Sub A C := fun a o e => k a o (h a o e)
theorem Sub.none {F H : Hp} (h : Sub F H) {a : Addr} (e : H a = Option.none) : F a = Option.none := by
  cases q : F a with
  | none => rfl
  | some o => rw [h a o q] at e; cases e
theorem Sub.upd {F : Hp} {a : Addr} {o : HO} (h : F a = Option.none) : Sub F (upd F a o) := fun b u e => by
  rw [upd_ne (ne_of_none e h)]; exact e
theorem Sub.sqL {K : Fr} {F H : Hp} (h : Sub F H) {a : Addr} {xs : List V} (k : SqL K F a xs) : SqL K H a xs := by
  rcases k with (k | ⟨o, k⟩) | k
  · exact .inl (.inl (h _ _ k))
  · exact .inl (.inr ⟨o, h _ _ k⟩)
  · exact .inr k
theorem Sub.rd {F H : Hp} (h : Sub F H) {a : Addr} {o : HO} (k : Rd F a o) : Rd H a o := by
  rcases k with k | ⟨o, k⟩
  · exact .inl (h _ _ k)
  · exact .inr ⟨o, h _ _ k⟩
theorem Sub.sqT {K : Fr} {F H : Hp} (h : Sub F H) {a : Addr} {xs : List V} (k : SqT K F a xs) : SqT K H a xs := by
  rcases k with (k | ⟨o, k⟩) | k
  · exact .inl (.inl (h _ _ k))
  · exact .inl (.inr ⟨o, h _ _ k⟩)
  · exact .inr k

mutual
def Rep (K : Fr) (F : Hp) : D → V → Prop
  | .non, v => v = .non
  | .bl b, v => v = .bl b
  | .int i, v => v = .int i
  | .str s, v => v = .str (st s)
  | .raw u, v => v = u
  | .lst ds, v => ∃ a vs, v = .ref a ∧ Rd F a (.lst vs) ∧ Reps K F ds vs
  | .tup ds, v => ∃ a vs, v = .ref a ∧ SqT K F a vs ∧ Reps K F ds vs
  | .dic ks ds, v => ∃ a vs, v = .ref a ∧ F a = some (.dK (ks.zip vs)) ∧ ks.length = vs.length ∧ Reps K F ds vs
def Reps (K : Fr) (F : Hp) : List D → List V → Prop
  | [], vs => vs = []
  | d :: ds, vs => ∃ v r, vs = v :: r ∧ Rep K F d v ∧ Reps K F ds r
end

mutual
theorem Rep.mono {K : Fr} {F H : Hp} (h : Sub F H) : ∀ (d : D) (v : V), Rep K F d v → Rep K H d v
  | .non, _, k => k
  | .bl _, _, k => k
  | .int _, _, k => k
  | .str _, _, k => k
  | .raw _, _, k => k
  | .lst ds, v, k => by
    unfold Rep at k ⊢
    obtain ⟨a, vs, e, s, r⟩ := k
    exact ⟨a, vs, e, h.rd s, Reps.mono h ds vs r⟩
  | .tup ds, v, k => by
    unfold Rep at k ⊢
    obtain ⟨a, vs, e, s, r⟩ := k
    exact ⟨a, vs, e, h.sqT s, Reps.mono h ds vs r⟩
  | .dic ks ds, v, k => by
    unfold Rep at k ⊢
    obtain ⟨a, vs, e, s, l, r⟩ := k
    exact ⟨a, vs, e, h _ _ s, l, Reps.mono h ds vs r⟩
theorem Reps.mono {K : Fr} {F H : Hp} (h : Sub F H) : ∀ (ds : List D) (vs : List V), Reps K F ds vs → Reps K H ds vs
  | [], _, k => k
  | d :: ds, vs, k => by
    unfold Reps at k ⊢
    obtain ⟨v, r, e, k1, k2⟩ := k
    exact ⟨v, r, e, Rep.mono h d v k1, Reps.mono h ds r k2⟩
end

theorem Reps.nil {K : Fr} {F : Hp} : Reps K F [] [] := by unfold Reps; rfl
theorem Reps.cons {K : Fr} {F : Hp} {d : D} {ds : List D} {v : V} {vs : List V} (h : Rep K F d v) (k : Reps K F ds vs) : Reps K F (d :: ds) (v :: vs) := by
  unfold Reps; exact ⟨v, vs, rfl, h, k⟩
theorem Reps.inv {K : Fr} {F : Hp} {d : D} {ds : List D} {vs : List V} (h : Reps K F (d :: ds) vs) : ∃ v r, vs = v :: r ∧ Rep K F d v ∧ Reps K F ds r := by
  unfold Reps at h; exact h
theorem Reps.inv0 {K : Fr} {F : Hp} {vs : List V} (h : Reps K F [] vs) : vs = [] := by
  unfold Reps at h; exact h
theorem Reps.length {K : Fr} {F : Hp} : ∀ {ds : List D} {vs : List V}, Reps K F ds vs → ds.length = vs.length
  | [], vs, h => by rw [h.inv0]; rfl
  | d :: ds, vs, h => by
    obtain ⟨v, r, rfl, _, k⟩ := h.inv
    rw [List.length_cons, List.length_cons, k.length]
theorem Reps.get {K : Fr} {F : Hp} : ∀ {ds : List D} {vs : List V} {i : Nat} {d : D}, Reps K F ds vs → ds[i]? = some d → ∃ v, vs[i]? = some v ∧ Rep K F d v
  | [], vs, i, d, h, e => by simp at e
  | d' :: ds, vs, 0, d, h, e => by
    obtain ⟨v, r, rfl, k1, _⟩ := h.inv
    simp at e; subst e
    exact ⟨v, rfl, k1⟩
  | d' :: ds, vs, i + 1, d, h, e => by
    obtain ⟨v, r, rfl, _, k⟩ := h.inv
    obtain ⟨v', e', k'⟩ := Reps.get (i := i) k (by simpa using e)
    exact ⟨v', by simpa using e', k'⟩
theorem Reps.getV {K : Fr} {F : Hp} : ∀ {ds : List D} {vs : List V} {i : Nat} {v : V}, Reps K F ds vs → vs[i]? = some v → ∃ d, ds[i]? = some d ∧ Rep K F d v
  | [], vs, i, v, h, e => by rw [h.inv0] at e; simp at e
  | d' :: ds, vs, 0, v, h, e => by
    obtain ⟨v', r, rfl, k1, _⟩ := h.inv
    simp at e; subst e
    exact ⟨d', rfl, k1⟩
  | d' :: ds, vs, i + 1, v, h, e => by
    obtain ⟨v', r, rfl, _, k⟩ := h.inv
    obtain ⟨d, e', k'⟩ := Reps.getV (i := i) k (by simpa using e)
    exact ⟨d, by simpa using e', k'⟩
theorem Reps.append {K : Fr} {F : Hp} : ∀ {ds es : List D} {vs us : List V}, Reps K F ds vs → Reps K F es us → Reps K F (ds ++ es) (vs ++ us)
  | [], es, vs, us, h, k => by rw [h.inv0]; exact k
  | d :: ds, es, vs, us, h, k => by
    obtain ⟨v, r, rfl, k1, k2⟩ := h.inv
    exact Reps.cons k1 (Reps.append k2 k)
theorem Reps.take {K : Fr} {F : Hp} : ∀ {ds : List D} {vs : List V} (n : Nat), Reps K F ds vs → Reps K F (ds.take n) (vs.take n)
  | ds, vs, 0, h => by rw [List.take_zero, List.take_zero]; exact Reps.nil
  | [], vs, n + 1, h => by rw [h.inv0]; exact Reps.nil
  | d :: ds, vs, n + 1, h => by
    obtain ⟨v, r, rfl, k1, k2⟩ := h.inv
    exact Reps.cons k1 (Reps.take n k2)
theorem Reps.drop {K : Fr} {F : Hp} : ∀ {ds : List D} {vs : List V} (n : Nat), Reps K F ds vs → Reps K F (ds.drop n) (vs.drop n)
  | ds, vs, 0, h => h
  | [], vs, n + 1, h => by rw [h.inv0]; exact Reps.nil
  | d :: ds, vs, n + 1, h => by
    obtain ⟨v, r, rfl, k1, k2⟩ := h.inv
    exact Reps.drop n k2
theorem Reps.set {K : Fr} {F : Hp} : ∀ {ds : List D} {vs : List V} (n : Nat) {d : D} {v : V}, Reps K F ds vs → Rep K F d v → Reps K F (ds.set n d) (vs.set n v)
  | [], vs, n, d, v, h, k => by rw [h.inv0]; exact Reps.nil
  | d' :: ds, vs, 0, d, v, h, k => by
    obtain ⟨v', r, rfl, k1, k2⟩ := h.inv
    exact Reps.cons k k2
  | d' :: ds, vs, n + 1, d, v, h, k => by
    obtain ⟨v', r, rfl, k1, k2⟩ := h.inv
    exact Reps.cons k1 (Reps.set n k2 k)

/-! ### a frame's slots: (owned, datum) -/
abbrev Slot := Bool × D
abbrev Env := List (Option Slot)

/-- a list or dict that stands at a -/
def At (K : Fr) (F H : Hp) (d : D) (a : Addr) : Prop :=
  match d with
  | .lst ds => ∃ vs, H a = some (.lst vs) ∧ Reps K F ds vs
  | .dic ks ds => ∃ vs, H a = some (.dK (ks.zip vs)) ∧ ks.length = vs.length ∧ Reps K F ds vs
  | _ => False
def Own (K : Fr) (B F H : Hp) (d : D) (v : V) : Prop := ∃ a, v = .ref a ∧ F a = none ∧ B a = none ∧ At K F H d a
def SlR (K : Fr) (B F H : Hp) (s : Slot) (v : V) : Prop := match s with
  | (false, d) => Rep K F d v
  | (true, d) => Own K B F H d v
/-- readable: the outermost cell in H, what is within in F -/
def PkR (K : Fr) (F H : Hp) (d : D) (v : V) : Prop := match d with
  | .lst ds => ∃ a vs, v = .ref a ∧ Rd H a (.lst vs) ∧ Reps K F ds vs
  | .dic ks ds => ∃ a vs, v = .ref a ∧ H a = some (.dK (ks.zip vs)) ∧ ks.length = vs.length ∧ Reps K F ds vs
  | d => Rep K F d v

theorem At.mono {K : Fr} {F H F' H' : Hp} {d : D} {a : Addr} (h : At K F H d a) (f : Sub F F') (e : ∀ o, H a = some o → H' a = some o) : At K F' H' d a := by
  cases d with
  | lst ds =>
    obtain ⟨vs, h1, h2⟩ := h
    exact ⟨vs, e _ h1, Reps.mono f _ _ h2⟩
  | dic ks ds =>
    obtain ⟨vs, h1, h2, h3⟩ := h
    exact ⟨vs, e _ h1, h2, Reps.mono f _ _ h3⟩
  | _ => exact h.elim
theorem At.there {K : Fr} {F H : Hp} {d : D} {a : Addr} (h : At K F H d a) : ∃ o, H a = some o := by
  cases d with
  | lst ds => obtain ⟨vs, h1, _⟩ := h; exact ⟨_, h1⟩
  | dic ks ds => obtain ⟨vs, h1, _⟩ := h; exact ⟨_, h1⟩
  | _ => exact h.elim
/-- what stands at a, frozen -/
theorem At.rep {K : Fr} {F H F' : Hp} {d : D} {a : Addr} (h : At K F H d a) (f : Sub F F') (e : ∀ o, H a = some o → F' a = some o) : Rep K F' d (.ref a) := by
  cases d with
  | lst ds =>
    obtain ⟨vs, h1, h2⟩ := h
    unfold Rep
    exact ⟨a, vs, rfl, .inl (e _ h1), Reps.mono f _ _ h2⟩
  | dic ks ds =>
    obtain ⟨vs, h1, h2, h3⟩ := h
    unfold Rep
    exact ⟨a, vs, rfl, e _ h1, h2, Reps.mono f _ _ h3⟩
  | _ => exact h.elim
theorem At.pk {K : Fr} {F H : Hp} {d : D} {a : Addr} (h : At K F H d a) : PkR K F H d (.ref a) := by
  cases d with
  | lst ds =>
    obtain ⟨vs, h1, h2⟩ := h
    exact ⟨a, vs, rfl, .inl h1, h2⟩
  | dic ks ds =>
    obtain ⟨vs, h1, h2, h3⟩ := h
    exact ⟨a, vs, rfl, h1, h2, h3⟩
  | _ => exact h.elim
theorem Rep.pk {K : Fr} {F H : Hp} (f : Sub F H) {d : D} {v : V} (h : Rep K F d v) : PkR K F H d v := by
  cases d with
  | lst ds =>
    unfold Rep at h
    obtain ⟨a, vs, e, s, r⟩ := h
    exact ⟨a, vs, e, f.rd s, r⟩
  | dic ks ds =>
    unfold Rep at h
    obtain ⟨a, vs, e, s, l, r⟩ := h
    exact ⟨a, vs, e, f _ _ s, l, r⟩
  | _ => exact h
theorem SlR.pk {K : Fr} {B F H : Hp} (f : Sub F H) {s : Slot} {v : V} (h : SlR K B F H s v) : PkR K F H s.2 v := by
  obtain ⟨o, d⟩ := s
  cases o with
  | false => exact Rep.pk f h
  | true =>
    obtain ⟨a, rfl, _, _, h⟩ := h
    exact h.pk
theorem PkR.mono {K : Fr} {F H F' H' : Hp} {d : D} {v : V} (h : PkR K F H d v) (f : Sub F F') (g : Sub H H') : PkR K F' H' d v := by
  cases d with
  | lst ds =>
    obtain ⟨a, vs, e, s, r⟩ := h
    exact ⟨a, vs, e, g.rd s, Reps.mono f _ _ r⟩
  | dic ks ds =>
    obtain ⟨a, vs, e, s, l, r⟩ := h
    exact ⟨a, vs, e, g _ _ s, l, Reps.mono f _ _ r⟩
  | tup ds => exact Rep.mono f (.tup ds) v h
  | _ => exact h
theorem PkR.rep {K : Fr} {F H : Hp} (f : Sub F H) {d : D} {v : V} (h : PkR K F H d v) : Rep K H d v := by
  cases d with
  | lst ds =>
    obtain ⟨a, vs, e, s, r⟩ := h
    unfold Rep
    exact ⟨a, vs, e, s, Reps.mono f _ _ r⟩
  | dic ks ds =>
    obtain ⟨a, vs, e, s, l, r⟩ := h
    unfold Rep
    exact ⟨a, vs, e, s, l, Reps.mono f _ _ r⟩
  | tup ds => exact Rep.mono f (.tup ds) v h
  | _ => exact h

/-- the state. B: what stood at the def's entry (kept); F0: what of it is data; F: the data now; H: the heap now -/

abbrev Pin := Option (Nat × V)
def Pin.ok (pp : Pin) (σ : L2.St) : Prop := ∀ i v, pp = some (i, v) → σ[i]? = some (some v)
def Pin.free (pp : Pin) (j : Nat) : Prop := ∀ i v, pp = some (i, v) → j ≠ i
theorem Pin.free_no {j : Nat} : Pin.free none j := fun i v h => by cases h
theorem Pin.free_ne {i j : Nat} {v : V} (h : j ≠ i) : Pin.free (some (i, v)) j := fun i' v' e => by cases e; exact h
theorem Pin.ok_no {σ : L2.St} : Pin.ok none σ := fun i v h => by cases h
theorem Pin.ok.set {pp : Pin} {σ : L2.St} (h : Pin.ok pp σ) {j : Nat} {o : Option V} (f : Pin.free pp j) : Pin.ok pp (σ.set j o) := fun i v e => by
  rw [List.getElem?_set_ne (f i v e)]
  exact h i v e
theorem Pin.ok.ext {pp : Pin} {σ σ' : L2.St} {js : List Nat} (h : Pin.ok pp σ) (f : ∀ j ∈ js, Pin.free pp j) (e : ∀ j, j ∉ js → σ'[j]? = σ[j]?) : Pin.ok pp σ' := fun i v q => by
  have : i ∉ js := fun z => f i z i v q rfl
  rw [e i this]
  exact h i v q
structure SR (pp : Pin) (K : Fr) (B F0 F H : Hp) (σ : L2.St) (ρ : Env) : Prop where
  bh : Sub B H
  fh : Sub F H
  f0 : Sub F0 F
  new : ∀ a o, F a = some o → F0 a = some o ∨ B a = none
  len : σ.length = ρ.length
  sl : ∀ (i : Nat) (s : Slot), ρ[i]? = some (some s) → ∃ v, σ[i]? = some (some v) ∧ SlR K B F H s v
  sep : ∀ (i j : Nat) (p : Addr) (di dj : D), ρ[i]? = some (some (true, di)) → ρ[j]? = some (some (true, dj)) → σ[i]? = some (some (.ref p)) → σ[j]? = some (some (.ref p)) → i = j
  pk : Pin.ok pp σ

/-- data and heap grow by new objects alone -/
structure Grow (F H F' H' : Hp) : Prop where
  f : Sub F F'
  h : Sub H H'
  fh : Sub F' H'
  new : ∀ a o, F' a = some o → F a = some o ∨ H a = none
theorem Grow.refl {F H : Hp} (h : Sub F H) : Grow F H F H := ⟨Sub.refl _, Sub.refl _, h, fun _ _ e => .inl e⟩
theorem Grow.trans {F H F1 H1 F2 H2 : Hp} (a : Grow F H F1 H1) (b : Grow F1 H1 F2 H2) : Grow F H F2 H2 :=
  ⟨a.f.trans b.f, a.h.trans b.h, b.fh, fun x o e => by
    rcases b.new x o e with e | e
    · exact a.new x o e
    · exact .inr (a.h.none e)⟩

section
variable {pp : Pin} {K : Fr} {B F0 F H F' H' : Hp} {σ : L2.St} {ρ ρ' : Env}
theorem SR.slot (S : SR pp K B F0 F H σ ρ) {i : Nat} {s : Slot} (e : ρ[i]? = some (some s)) : ∃ v, σ[i]? = some (some v) ∧ SlR K B F H s v := S.sl i s e
theorem SlR.grow {s : Slot} {v : V} (h : SlR K B F H s v) (g : Grow F H F' H') : SlR K B F' H' s v := by
  obtain ⟨o, d⟩ := s
  cases o with
  | false => exact Rep.mono g.f d v h
  | true =>
    obtain ⟨a, e, fa, ba, k⟩ := h
    obtain ⟨o, ho⟩ := k.there
    refine ⟨a, e, ?_, ba, k.mono g.f fun u hu => g.h a u hu⟩
    cases q : F' a with
    | none => rfl
    | some u =>
      rcases g.new a u q with z | z
      · rw [fa] at z; cases z
      · rw [ho] at z; cases z
theorem SR.grow (S : SR pp K B F0 F H σ ρ) (g : Grow F H F' H') : SR pp K B F0 F' H' σ ρ where
  bh := S.bh.trans g.h
  fh := g.fh
  f0 := S.f0.trans g.f
  new := fun a o e => by
    rcases g.new a o e with z | z
    · exact S.new a o z
    · exact .inr (S.bh.none z)
  len := S.len
  sl := fun i s e => by
    obtain ⟨v, h1, h2⟩ := S.sl i s e
    exact ⟨v, h1, h2.grow g⟩
  sep := S.sep
  pk := S.pk
/-- an owned datum is frozen: its cell goes to the data -/
theorem SR.freeze (S : SR pp K B F0 F H σ ρ) {i : Nat} {d : D} {v : V} (e : ρ[i]? = some (some (true, d))) (ev : σ[i]? = some (some v)) :
    ∃ F', SR pp K B F0 F' H σ (ρ.set i (some (false, d))) ∧ Sub F F' ∧ Rep K F' d v := by
  obtain ⟨v', e', a, rfl, fa, ba, k⟩ := S.sl i _ e
  rw [ev] at e'; cases e'
  obtain ⟨o, ho⟩ := k.there
  have hf : Sub F (upd F a o) := Sub.upd fa
  have hi : i < ρ.length := (List.getElem?_eq_some_iff.mp e).1
  refine ⟨upd F a o, ⟨S.bh, fun b u q => ?_, S.f0.trans hf, fun b u q => ?_, by simpa using S.len, fun j s q => ?_, fun j l p dj dl q1 q2 => ?_, S.pk⟩, hf, k.rep hf fun u hu => ?_⟩
  · by_cases hb : b = a
    · subst hb; rw [upd_same] at q; cases q; exact ho
    · rw [upd_ne hb] at q; exact S.fh b u q
  · by_cases hb : b = a
    · subst hb; exact .inr ba
    · rw [upd_ne hb] at q; exact S.new b u q
  · by_cases hj : j = i
    · subst hj
      rw [List.getElem?_set_self hi] at q
      cases q
      exact ⟨.ref a, ev, k.rep hf fun u hu => by rw [ho] at hu; cases hu; exact upd_same⟩
    · rw [List.getElem?_set_ne (Ne.symm hj)] at q
      obtain ⟨v, h1, h2⟩ := S.sl j s q
      refine ⟨v, h1, ?_⟩
      obtain ⟨ow, dj⟩ := s
      cases ow with
      | false => exact Rep.mono hf dj v h2
      | true =>
        obtain ⟨p, rfl, fp, bp, kp⟩ := h2
        have np : p ≠ a := fun z => by
          subst z
          exact hj (S.sep j i p dj d q e h1 ev)
        exact ⟨p, rfl, by rw [upd_ne np]; exact fp, bp, kp.mono hf fun u hu => hu⟩
  · have nj : j ≠ i := fun z => by
      subst z; rw [List.getElem?_set_self hi] at q1; cases q1
    have nl : l ≠ i := fun z => by
      subst z; rw [List.getElem?_set_self hi] at q2; cases q2
    rw [List.getElem?_set_ne (Ne.symm nj)] at q1
    rw [List.getElem?_set_ne (Ne.symm nl)] at q2
    exact S.sep j l p dj dl q1 q2
  · rw [ho] at hu; cases hu; exact upd_same
end
end PM
namespace PM
open PySem L2
variable {pp : Pin}

/-! ### what an expression, a statement, a def comes to -/
/-- an exception: its class's name, its fields -/
structure Exn where
  cls : Str
  fs : List (Str × D)
inductive Out (α : Type) where
  | ok (a : α) (ρ : Env)
  | exc (e : Exn) (ρ : Env)
  | bad
abbrev M (α : Type) := Env → Out α
def M.bind {α β : Type} (m : M α) (f : α → M β) : M β := fun ρ => match m ρ with
  | .ok a ρ' => f a ρ'
  | .exc e ρ' => .exc e ρ'
  | .bad => .bad
def M.lift {α : Type} (o : Option α) : M α := fun ρ => match o with
  | some a => .ok a ρ
  | none => .bad
inductive SOut where
  | nx (ρ : Env) | bk (ρ : Env) | ct (ρ : Env) | rt (s : Slot) | exc (e : Exn) (ρ : Env) | bad
abbrev SM := Env → SOut
def M.thenS {α : Type} (m : M α) (f : α → SM) : SM := fun ρ => match m ρ with
  | .ok a ρ' => f a ρ'
  | .exc e ρ' => .exc e ρ'
  | .bad => .bad
inductive FOut where
  | ok (s : Slot) | exc (e : Exn) | bad
abbrev FM := List D → FOut

/-- the context: the written part, the module's names, the entry's heap, its data, the wish of exceptions -/
structure Ct where
  K : Fr
  mg : Str → Option Value
  B : Hp
  F0 : Hp
  W : WX
  pp : Pin := none

def XR (K : Fr) (mg : Str → Option Value) (F H : Hp) (e : Exn) (cls : Value) (d : Option Addr) : Prop :=
  mg e.cls = some cls ∧ ((e.fs = [] ∧ d = none) ∨ ∃ dx vs, d = some dx ∧ F dx = some (.xd ((e.fs.map (·.1)).zip vs)) ∧ Reps K F (e.fs.map (·.2)) vs)

/-- a value told by a slot: what is owned is in no slot of the frame -/
def VR (c : Ct) (F H : Hp) (σ : L2.St) (ρ : Env) (s : Slot) (v : V) : Prop :=
  SlR c.K c.B F H s v ∧ (s.1 = true → ∀ (i : Nat) (d : D), ρ[i]? = some (some (true, d)) → σ[i]? ≠ some (some v))

abbrev SRc (c : Ct) (F H : Hp) (σ : L2.St) (ρ : Env) : Prop := SR c.pp c.K c.B c.F0 F H σ ρ
def Aft {α β : Type} (c : Ct) (R : Hp → Hp → L2.St → Env → α → β → Prop) (F H : Hp) (σ : L2.St) (o : Out α) (Q : β → Hp → Prop) : Prop := match o with
  | .ok a ρ' => ∀ b F' H', SRc c F' H' σ ρ' → Sub F F' → Sub H H' → R F' H' σ ρ' a b → Q b H'
  | .exc e ρ' => ∀ F' H' cls d, SRc c F' H' σ ρ' → XR c.K c.mg F' H' e cls d → c.W cls d σ H'
  | .bad => False
def tG {α β : Type} (c : Ct) (R : Hp → Hp → L2.St → Env → α → β → Prop) (A : M α) : L2.St → Hp → (β → Hp → Prop) → Prop :=
  fun σ H Q => ∃ F ρ, SRc c F H σ ρ ∧ Aft c R F H σ (A ρ) Q
section
variable {α β γ δ : Type} {c : Ct} {R : Hp → Hp → L2.St → Env → α → β → Prop} {R1 : Hp → Hp → L2.St → Env → γ → δ → Prop} {F H F1 H1 : Hp} {σ : L2.St} {ρ : Env} {o : Out α} {Q : β → Hp → Prop}
theorem Aft.up (h : Aft c R F H σ o Q) (f : Sub F F1) (g : Sub H H1) : Aft c R F1 H1 σ o Q := by
  cases o with
  | ok a ρ' => exact fun b F' H' S f' h' r => h b F' H' S (f.trans f') (g.trans h') r
  | exc e ρ' => exact h
  | bad => exact h
theorem Aft.step {A : M γ} {f : γ → M α} {Ψ : δ → Hp → Prop} (h : Aft c R F H σ (A.bind f ρ) Q)
    (k : ∀ a ρ1 x F1 H1, SRc c F1 H1 σ ρ1 → R1 F1 H1 σ ρ1 a x → Sub F F1 → Sub H H1 → Aft c R F1 H1 σ (f a ρ1) Q → Ψ x H1) : Aft c R1 F H σ (A ρ) Ψ := by
  unfold M.bind at h
  cases e : A ρ with
  | ok a ρ1 =>
    rw [e] at h
    exact fun b F' H' S f' h' r => k a ρ1 b F' H' S r f' h' (h.up f' h')
  | exc x ρ1 =>
    rw [e] at h
    exact h
  | bad =>
    rw [e] at h
    exact h.elim
theorem Aft.imp {R' : Hp → Hp → L2.St → Env → γ → δ → Prop} {A : M α} {g : α → γ} {A' : M γ} {Q' : δ → Hp → Prop} (hA : A' ρ = (match A ρ with | .ok a ρ' => .ok (g a) ρ' | .exc e ρ' => .exc e ρ' | .bad => .bad))
    (h : Aft c R' F H σ (A' ρ) Q') (k : ∀ a ρ1 b F1 H1, SRc c F1 H1 σ ρ1 → R F1 H1 σ ρ1 a b → ∃ b', R' F1 H1 σ ρ1 (g a) b' ∧ (Q' b' H1 → Q b H1)) : Aft c R F H σ (A ρ) Q := by
  rw [hA] at h
  cases e : A ρ with
  | ok a ρ1 =>
    rw [e] at h
    intro b F' H' S f' h' r
    obtain ⟨b', r', q⟩ := k a ρ1 b F' H' S r
    exact q (h b' F' H' S f' h' r')
  | exc x ρ1 =>
    rw [e] at h
    exact h
  | bad =>
    rw [e] at h
    exact h.elim
end

def rT : Hp → Hp → L2.St → Env → Bool → Bool → Prop := fun _ _ _ _ b b' => b' = b
def rP (c : Ct) : Hp → Hp → L2.St → Env → D → V → Prop := fun F H _ _ d v => PkR c.K F H d v
def PkRs (K : Fr) (F H : Hp) : List D → List V → Prop
  | [], vs => vs = []
  | d :: ds, vs => ∃ v r, vs = v :: r ∧ PkR K F H d v ∧ PkRs K F H ds r
def rPs (c : Ct) : Hp → Hp → L2.St → Env → List D → List V → Prop := fun F H _ _ d v => PkRs c.K F H d v
abbrev tE (c : Ct) (A : M Slot) : TE := tG c (VR c) A
abbrev tP (c : Ct) (A : M D) : TE := tG c (rP c) A
abbrev tT (c : Ct) (A : M Bool) : TT := tG c rT A
abbrev tPs (c : Ct) (A : M (List D)) : TA := tG c (rPs c) A

/-! ### statements -/
def SAft (c : Ct) (o : SOut) (D : Ends) : Prop := match o with
  | .nx ρ' => ∀ σ' F' H', SRc c F' H' σ' ρ' → D.nx σ' H'
  | .bk ρ' => ∀ σ' F' H', SRc c F' H' σ' ρ' → D.bk σ' H'
  | .ct ρ' => ∀ σ' F' H', SRc c F' H' σ' ρ' → D.ct σ' H'
  | .rt s => ∀ v σ' ρ' F' H', SRc c F' H' σ' ρ' → SlR c.K c.B F' H' s v → D.rt v H'
  | .exc e ρ' => ∀ σ' F' H' cls d, SRc c F' H' σ' ρ' → XR c.K c.mg F' H' e cls d → c.W cls d σ' H'
  | .bad => False
def tS (c : Ct) (S : SM) : TS := fun D σ H => ∃ F ρ, SRc c F H σ ρ ∧ SAft c (S ρ) D
section
variable {γ δ : Type} {c : Ct} {R1 : Hp → Hp → L2.St → Env → γ → δ → Prop} {F H : Hp} {σ : L2.St} {ρ : Env} {E : Ends}
theorem SAft.step {A : M γ} {f : γ → SM} {Ψ : δ → Hp → Prop} (h : SAft c (A.thenS f ρ) E)
    (k : ∀ a ρ1 x F1 H1, SRc c F1 H1 σ ρ1 → R1 F1 H1 σ ρ1 a x → Sub F F1 → Sub H H1 → SAft c (f a ρ1) E → Ψ x H1) : Aft c R1 F H σ (A ρ) Ψ := by
  unfold M.thenS at h
  cases e : A ρ with
  | ok a ρ1 =>
    rw [e] at h
    exact fun b F' H' S f' h' r => k a ρ1 b F' H' S r f' h' h
  | exc x ρ1 =>
    rw [e] at h
    exact fun F' H' cls d S x => h σ F' H' cls d S x
  | bad =>
    rw [e] at h
    exact h.elim
end

/-! ### consequence -/
theorem _root_.L2.PE.imp {X : Cx} {e : Expr} {t t' : TE} (h : PE X e t) (k : ∀ σ H Q, t' σ H Q → t σ H Q) : PE X e t' := ⟨fun pins s σ H Q I hw => h.run pins s σ H Q I (k σ H Q hw)⟩
theorem _root_.L2.PT.imp {X : Cx} {e : Expr} {t t' : TT} (h : PT X e t) (k : ∀ σ H Q, t' σ H Q → t σ H Q) : PT X e t' := ⟨fun pins s σ H Q I hw => h.run pins s σ H Q I (k σ H Q hw)⟩
theorem _root_.L2.PW.imp {X : Cx} {e : Expr} {t t' : TT} (h : PW X e t) (k : ∀ σ H Q, t' σ H Q → t σ H Q) : PW X e t' := ⟨fun wh pins s σ H Q I hw => h.run wh pins s σ H Q I (k σ H Q hw)⟩
theorem _root_.L2.PA.imp {X : Cx} {es : List Expr} {t t' : TA} (h : PA X es t) (k : ∀ σ H Q, t' σ H Q → t σ H Q) : PA X es t' := ⟨fun pos pins s σ H Q I hw => h.run pos pins s σ H Q I (k σ H Q hw)⟩
theorem _root_.L2.PS.imp {X : Cx} {s : Stmt} {t t' : TS} (h : PS X s t) (k : ∀ D σ H, t' D σ H → t D σ H) : PS X s t' := ⟨fun pins s σ H D I hw => h.run pins s σ H D I (k D σ H hw)⟩
theorem _root_.L2.PSs.imp {X : Cx} {s : List Stmt} {t t' : TS} (h : PSs X s t) (k : ∀ D σ H, t' D σ H → t D σ H) : PSs X s t' := ⟨fun pins s σ H D I hw => h.run pins s σ H D I (k D σ H hw)⟩

/-! ### names and constants -/
def ret (s : Slot) : M Slot := fun ρ => .ok s ρ
def cst (d : D) : M Slot := ret (false, d)
/-- the value of the slot i, handed on: what was owned is frozen -/
def var (i : Nat) : M Slot := fun ρ => match ρ[i]? with
  | some (some (false, d)) => .ok (false, d) ρ
  | some (some (true, d)) => .ok (false, d) (ρ.set i (some (false, d)))
  | _ => .bad
/-- .. looked at -/
def pvar (i : Nat) : M D := fun ρ => match ρ[i]? with
  | some (some (_, d)) => .ok d ρ
  | _ => .bad
def pk (A : M Slot) : M D := A.bind fun s ρ => .ok s.2 ρ

section
variable {X : Cx} {c : Ct} {e a b : Expr} {pos : Pos}
theorem e_var {i : Nat} {x : Str} (h : PE X (.Name x pos) (tVar i)) : PE X (.Name x pos) (tE c (var i)) := by
  refine h.imp fun σ H Q ⟨F, ρ, S, a⟩ => ?_
  unfold var at a
  split at a
  · rename_i d e
    obtain ⟨v, h1, h2⟩ := S.sl i _ e
    exact ⟨v, h1, a v F H S (Sub.refl _) (Sub.refl _) ⟨h2, fun z => by cases z⟩⟩
  · rename_i d e
    obtain ⟨v, h1, _⟩ := S.sl i _ e
    obtain ⟨F', S', f, r⟩ := S.freeze e h1
    exact ⟨v, h1, a v F' H S' f (Sub.refl _) ⟨r, fun z => by cases z⟩⟩
  · exact a.elim
theorem p_var {i : Nat} {x : Str} (h : PE X (.Name x pos) (tVar i)) : PE X (.Name x pos) (tP c (pvar i)) := by
  refine h.imp fun σ H Q ⟨F, ρ, S, a⟩ => ?_
  unfold pvar at a
  split at a
  · rename_i o d e
    obtain ⟨v, h1, h2⟩ := S.sl i _ e
    exact ⟨v, h1, a v F H S (Sub.refl _) (Sub.refl _) (h2.pk S.fh)⟩
  · exact a.elim
theorem e_cst {d : D} {v : V} (h : PE X e (tC v)) (r : ∀ F, Rep c.K F d v) : PE X e (tE c (cst d)) := by
  refine h.imp fun σ H Q ⟨F, ρ, S, a⟩ => ?_
  exact a v F H S (Sub.refl _) (Sub.refl _) ⟨r F, fun z => by cases z⟩
theorem e_int {i : Int} {j : Nat} : PE X (.Constant (.int i) j pos) (tE c (cst (.int i))) := e_cst pe_int fun _ => rfl
theorem e_bl {i : Bool} {j : Nat} : PE X (.Constant (.bool i) j pos) (tE c (cst (.bl i))) := e_cst pe_bl fun _ => rfl
theorem e_non {j : Nat} : PE X (.Constant .none j pos) (tE c (cst .non)) := e_cst pe_non fun _ => rfl
theorem e_str {x : Str} {s : List Nat} {j : Nat} (h : x = st s := by rfl) : PE X (.Constant (.str x) j pos) (tE c (cst (.str s))) := e_cst pe_str fun _ => by rw [h]; rfl
theorem p_of {A : M Slot} (h : PE X e (tE c A)) : PE X e (tP c (pk A)) := by
  refine h.imp fun σ H Q ⟨F, ρ, S, a⟩ => ⟨F, ρ, S, a.step fun s ρ1 x F1 H1 S1 r1 f1 h1 a1 => ?_⟩
  exact a1 x F1 H1 S1 (Sub.refl _) (Sub.refl _) (r1.1.pk S1.fh)
end

/-! ### operations on values -/
/-- what an operation tells: grown heaps, the value new -/
def VN (K : Fr) (H F' H' : Hp) (s : Slot) (v : V) : Prop := match s with
  | (false, d) => Rep K F' d v
  | (true, d) => ∃ a, v = .ref a ∧ H a = none ∧ F' a = none ∧ At K F' H' d a
theorem VN.vr {c : Ct} {F H F' H' : Hp} {σ : L2.St} {ρ : Env} {s : Slot} {v : V} (h : VN c.K H F' H' s v) (S : SRc c F H σ ρ) : VR c F' H' σ ρ s v := by
  obtain ⟨o, d⟩ := s
  cases o with
  | false => exact ⟨h, fun z => by cases z⟩
  | true =>
    obtain ⟨a, rfl, ha, fa, k⟩ := h
    refine ⟨⟨a, rfl, fa, S.bh.none ha, k⟩, fun _ i d' e1 e2 => ?_⟩
    obtain ⟨v', h1, b, rfl, _, _, k'⟩ := S.sl i _ e1
    rw [e2] at h1; cases h1
    obtain ⟨o, ho⟩ := k'.there
    rw [ha] at ho; cases ho
def OpOk (K : Fr) (f : D → D → Option Slot) (r : R2) : Prop := ∀ (F H : Hp) (d1 d2 : D) (x y : V) (s : Slot) (Q : VK), Sub F H → PkR K F H d1 x → PkR K F H d2 y → f d1 d2 = some s →
  (∀ v F' H', Grow F H F' H' → VN K H F' H' s v → Q v H') → r x y H Q
def CallOk (K : Fr) (f : List D → Option Slot) (r : List V → Hp → VK → Prop) : Prop := ∀ (F H : Hp) (ds : List D) (xs : List V) (s : Slot) (Q : VK), Sub F H → PkRs K F H ds xs → f ds = some s →
  (∀ v F' H', Grow F H F' H' → VN K H F' H' s v → Q v H') → r xs H Q
def bin (f : D → D → Option Slot) (A1 A2 : M D) : M Slot := A1.bind fun d1 => A2.bind fun d2 => M.lift (f d1 d2)
section
variable {X : Cx} {c : Ct} {e a b : Expr} {pos : Pos}
theorem Aft.lift {F H : Hp} {σ : L2.St} {ρ : Env} {o : Option Slot} {Q : VK} (h : Aft c (VR c) F H σ (M.lift o ρ) Q) (S : SRc c F H σ ρ) :
    ∃ s, o = some s ∧ ∀ v F' H', Grow F H F' H' → VN c.K H F' H' s v → Q v H' := by
  cases o with
  | none => exact h.elim
  | some s => exact ⟨s, rfl, fun v F' H' g n => h v F' H' (S.grow g) g.f g.h (n.vr S)⟩
theorem op_tr {f : D → D → Option Slot} {r : R2} {A1 A2 : M D} (ok : OpOk c.K f r) {σ : L2.St} {H : Hp} {Q : VK} (h : tE c (bin f A1 A2) σ H Q) : tOp r (tP c A1) (tP c A2) σ H Q := by
  obtain ⟨F, ρ, S, a⟩ := h
  refine ⟨F, ρ, S, a.step fun d1 ρ1 x F1 H1 S1 r1 f1 h1 a1 => ⟨F1, ρ1, S1, a1.step fun d2 ρ2 y F2 H2 S2 r2 f2 h2 a2 => ?_⟩⟩
  obtain ⟨s, e, k⟩ := a2.lift S2
  exact ok F2 H2 d1 d2 x y s Q S2.fh (r1.mono f2 h2) r2 e k
theorem e_bin {op : Operator} {f : D → D → Option Slot} {r : R2} {A1 A2 : M D} (ho : OpR X (binaryOp op) r) (ok : OpOk c.K f r) (ha : PE X a (tP c A1)) (hb : PE X b (tP c A2)) : PE X (.BinOp a op b pos) (tE c (bin f A1 A2)) :=
  (pe_op ho ha hb).imp fun _ _ _ h => op_tr ok h
theorem e_cmp {op : CmpOp} {f : D → D → Option Slot} {r : R2} {A1 A2 : M D} (ho : OpR X (compareOp op) r) (ok : OpOk c.K f r) (ha : PE X a (tP c A1)) (hb : PE X b (tP c A2)) (hm : behindInMarks op b = false) : PE X (.Compare a [op] [b] pos) (tE c (bin f A1 A2)) :=
  (pe_cmpR ho ha hb hm).imp fun _ _ _ h => op_tr ok h
/-- a bool's value as a test -/
def asB (A : M Slot) : M Bool := A.bind fun s => M.lift (match s.2 with | .bl b => some b | _ => none)
theorem Aft.liftB {F H : Hp} {σ : L2.St} {ρ : Env} {o : Option Bool} {Q : Bool → Hp → Prop} (h : Aft c rT F H σ (M.lift o ρ) Q) (S : SRc c F H σ ρ) : ∃ b, o = some b ∧ Q b H := by
  cases o with
  | none => exact h.elim
  | some s => exact ⟨s, rfl, h s F H S (Sub.refl _) (Sub.refl _) rfl⟩
theorem asB_tr {A : M Slot} {σ : L2.St} {H : Hp} {Q : Bool → Hp → Prop} (h : tT c (asB A) σ H Q) : tTest (tE c A) σ H Q := by
  obtain ⟨F, ρ, S, a⟩ := h
  refine ⟨F, ρ, S, a.step fun s ρ1 x F1 H1 S1 r1 f1 h1 a1 => ?_⟩
  obtain ⟨b, e, q⟩ := a1.liftB S1
  obtain ⟨o, d⟩ := s
  cases d with
  | bl b' =>
    cases e
    cases o with
    | false => exact ⟨_, r1.1, q⟩
    | true => obtain ⟨a, _, _, _, k⟩ := r1.1; exact k.elim
  | _ => cases e
theorem t_cmp {op : CmpOp} {f : D → D → Option Slot} {r : R2} {A1 A2 : M D} (ho : OpR X (compareOp op) r) (ok : OpOk c.K f r) (ha : PE X a (tP c A1)) (hb : PE X b (tP c A2)) (hm : behindInMarks op b = false) : PT X (.Compare a [op] [b] pos) (tT c (asB (bin f A1 A2))) := by
  refine (pt_cmpR ho ha hb hm).imp fun σ H Q h => ?_
  obtain ⟨F, ρ, S, k⟩ := asB_tr h
  exact op_tr ok ⟨F, ρ, S, k⟩
/-- the truth of a datum -/
def truth : D → Option Bool
  | .non => some false
  | .bl b => some b
  | .int i => some (i != 0)
  | .str s => if s.length ≤ sizeLine then some ((s.length : Int) != 0) else none
  | .lst xs => some (!xs.isEmpty)
  | .tup xs => some (!xs.isEmpty)
  | .dic ks xs => some (!ks.isEmpty)
  | .raw _ => none
def tru (A : M D) : M Bool := A.bind fun d => M.lift (truth d)
theorem isEmpty_len {α β : Type} {xs : List α} {ys : List β} (h : xs.length = ys.length) : xs.isEmpty = ys.isEmpty := by
  cases xs <;> cases ys <;> simp at h ⊢
theorem truth_ok {K : Fr} {F H : Hp} {d : D} {v : V} {b : Bool} (fh : Sub F H) (r : PkR K F H d v) (e : truth d = some b) : TruV K v H b := by
  cases d with
  | non => cases e; have r : v = .non := r; subst r; rfl
  | bl _ => cases e; have r : v = .bl b := r; subst r; rfl
  | int i => cases e; have r : v = .int i := r; subst r; rfl
  | str s =>
    have r : v = .str (st s) := r
    subst r
    have e' : (if s.length ≤ sizeLine then some ((s.length : Int) != 0) else none) = some b := e
    by_cases hs : s.length ≤ sizeLine
    · rw [if_pos hs] at e'
      cases e'
      exact ⟨hs, rfl⟩
    · rw [if_neg hs] at e'
      cases e'
  | lst xs =>
    cases e
    obtain ⟨a, vs, rfl, s, rs⟩ := r
    exact .inl ⟨vs, .inl s, by rw [isEmpty_len rs.length]⟩
  | tup xs =>
    cases e
    have r' : Rep K F (.tup xs) v := r
    unfold Rep at r'
    obtain ⟨a, vs, rfl, s, rs⟩ := r'
    exact .inr (.inl ⟨vs, fh.sqT s, by rw [isEmpty_len rs.length]⟩)
  | dic ks xs =>
    cases e
    obtain ⟨a, vs, rfl, s, l, rs⟩ := r
    refine .inr (.inr ⟨_, s, ?_⟩)
    rw [isEmpty_len (show ks.length = (ks.zip vs).length by rw [List.length_zip, l, Nat.min_self])]
  | raw u => cases e
theorem t_tru {A : M D} (hk : c.K = X.K) (h : PE X e (tP c A)) (he : ∀ whole, isTrue e X.env whole = (do let v ← whole; standAt e.pos; holding [v] (truthy v))) : PT X e (tT c (tru A)) := by
  refine (pt_truth h he).imp fun σ H Q ⟨F, ρ, S, a⟩ => ⟨F, ρ, S, a.step fun d ρ1 x F1 H1 S1 r1 f1 h1 a1 => ?_⟩
  obtain ⟨b, e, q⟩ := a1.liftB S1
  exact ⟨b, hk ▸ truth_ok S1.fh r1 e, q⟩
/-! ### and, or, not, if .. else -/
def tand (A1 A2 : M Bool) : M Bool := A1.bind fun b => if b = true then A2 else fun ρ => .ok false ρ
def tor (A1 A2 : M Bool) : M Bool := A1.bind fun b => if b = true then fun ρ => .ok true ρ else A2
def tnot (A : M Bool) : M Bool := A.bind fun b ρ => .ok (!b) ρ
variable {A1 A2 : M Bool} {rest : List Expr}
theorem w_and1 (ha : PT X a (tT c A1)) : PW X (.BoolOp .And [a] pos) (tT c A1) := pw_and1 ha
theorem w_or1 (ha : PT X a (tT c A1)) : PW X (.BoolOp .Or [a] pos) (tT c A1) := pw_or1 ha
theorem w_and (ha : PT X a (tT c A1)) (hb : PW X (.BoolOp .And (b :: rest) pos) (tT c A2)) : PW X (.BoolOp .And (a :: b :: rest) pos) (tT c (tand A1 A2)) := by
  refine (pw_and ha hb).imp fun σ H Q ⟨F, ρ, S, k⟩ => ⟨F, ρ, S, k.step fun d ρ1 x F1 H1 S1 r1 f1 h1 a1 => ?_⟩
  have r1 : x = d := r1
  subst r1
  cases x with
  | true => exact ⟨F1, ρ1, S1, a1⟩
  | false => exact a1 false F1 H1 S1 (Sub.refl _) (Sub.refl _) rfl
theorem w_or (ha : PT X a (tT c A1)) (hb : PW X (.BoolOp .Or (b :: rest) pos) (tT c A2)) : PW X (.BoolOp .Or (a :: b :: rest) pos) (tT c (tor A1 A2)) := by
  refine (pw_or ha hb).imp fun σ H Q ⟨F, ρ, S, k⟩ => ⟨F, ρ, S, k.step fun d ρ1 x F1 H1 S1 r1 f1 h1 a1 => ?_⟩
  have r1 : x = d := r1
  subst r1
  cases x with
  | false => exact ⟨F1, ρ1, S1, a1⟩
  | true => exact a1 true F1 H1 S1 (Sub.refl _) (Sub.refl _) rfl
theorem t_not (ha : PT X a (tT c A1)) : PT X (.UnaryOp .Not a pos) (tT c (tnot A1)) := by
  refine (pt_not ha).imp fun σ H Q ⟨F, ρ, S, k⟩ => ⟨F, ρ, S, k.step fun d ρ1 x F1 H1 S1 r1 f1 h1 a1 => ?_⟩
  have r1 : x = d := r1
  subst r1
  exact a1 _ F1 H1 S1 (Sub.refl _) (Sub.refl _) rfl
/-- as values -/
def vand (A1 A2 : M Slot) : M Slot := (asB A1).bind fun b => if b = true then A2 else ret (false, .bl false)
def vor (A1 A2 : M Slot) : M Slot := (asB A1).bind fun b => if b = true then ret (false, .bl true) else A2
def vnot (A : M Slot) : M Slot := (asB A).bind fun b => ret (false, .bl (!b))
variable {E1 E2 : M Slot}
theorem asB_step {γ : Type} {β : Type} {R : Hp → Hp → L2.St → Env → γ → β → Prop} {F H : Hp} {σ : L2.St} {ρ : Env} {Q : β → Hp → Prop} {f : Bool → M γ} {Ψ : V → Hp → Prop} (S : SRc c F H σ ρ) (h : Aft c R F H σ (((asB E1).bind f) ρ) Q)
    (k : ∀ b ρ1 F1 H1, SRc c F1 H1 σ ρ1 → Sub F F1 → Sub H H1 → Aft c R F1 H1 σ (f b ρ1) Q → Ψ (.bl b) H1) : tE c E1 σ H Ψ := by
  have h' : tT c (asB E1) σ H (fun b H1 => Ψ (.bl b) H1) := ⟨F, ρ, S, h.step fun b ρ1 x F1 H1 S1 r1 f1 h1 a1 => by
    have r1 : x = b := r1
    subst r1
    exact k x ρ1 F1 H1 S1 f1 h1 a1⟩
  obtain ⟨F', ρ', S', h2⟩ := asB_tr h'
  refine ⟨F', ρ', S', ?_⟩
  cases e : E1 ρ' with
  | ok s ρ1 =>
    rw [e] at h2
    intro v F2 H2 S2 f2 g2 r2
    obtain ⟨k, ek, q⟩ := h2 v F2 H2 S2 f2 g2 r2
    rw [ek]; exact q
  | exc x ρ1 => rw [e] at h2; exact h2
  | bad => rw [e] at h2; exact h2
theorem v_one {op : BoolOp} (ha : PE X a (tE c E1)) : PE X (.BoolOp op [a] pos) (tE c E1) := pe_one ha
theorem v_and (ha : PE X a (tE c E1)) (hb : PE X (.BoolOp .And (b :: rest) pos) (tE c E2)) : PE X (.BoolOp .And (a :: b :: rest) pos) (tE c (vand E1 E2)) := by
  refine (pe_and ha hb).imp fun σ H Q ⟨F, ρ, S, k⟩ => asB_step S k fun b ρ1 F1 H1 S1 f1 h1 a1 => ⟨b, rfl, ?_⟩
  cases b with
  | true => exact ⟨F1, ρ1, S1, a1⟩
  | false => exact a1 _ F1 H1 S1 (Sub.refl _) (Sub.refl _) ⟨rfl, fun z => by cases z⟩
theorem v_or (ha : PE X a (tE c E1)) (hb : PE X (.BoolOp .Or (b :: rest) pos) (tE c E2)) : PE X (.BoolOp .Or (a :: b :: rest) pos) (tE c (vor E1 E2)) := by
  refine (pe_or ha hb).imp fun σ H Q ⟨F, ρ, S, k⟩ => asB_step S k fun b ρ1 F1 H1 S1 f1 h1 a1 => ⟨b, rfl, ?_⟩
  cases b with
  | false => exact ⟨F1, ρ1, S1, a1⟩
  | true => exact a1 _ F1 H1 S1 (Sub.refl _) (Sub.refl _) ⟨rfl, fun z => by cases z⟩
theorem v_not (ha : PE X a (tE c E1)) : PE X (.UnaryOp .Not a pos) (tE c (vnot E1)) := by
  refine (pe_not ha).imp fun σ H Q ⟨F, ρ, S, k⟩ => asB_step S k fun b ρ1 F1 H1 S1 f1 h1 a1 => ⟨b, rfl, ?_⟩
  exact a1 _ F1 H1 S1 (Sub.refl _) (Sub.refl _) ⟨rfl, fun z => by cases z⟩
def iff {α : Type} (T : M Bool) (E1 E2 : M α) : M α := T.bind fun b => if b = true then E1 else E2
theorem e_iff {t : Expr} (ht : PT X t (tT c A1)) (ha : PE X a (tE c E1)) (hb : PE X b (tE c E2)) : PE X (.IfExp t a b pos) (tE c (iff A1 E1 E2)) := by
  refine (pe_ifExp ht ha hb).imp fun σ H Q ⟨F, ρ, S, k⟩ => ⟨F, ρ, S, k.step fun d ρ1 x F1 H1 S1 r1 f1 h1 a1 => ?_⟩
  have r1 : x = d := r1
  subst r1
  cases x with
  | true => exact ⟨F1, ρ1, S1, a1⟩
  | false => exact ⟨F1, ρ1, S1, a1⟩
end
end PM
namespace PM
open PySem L2 PyProof.Rows

/-! ### lists that may be read -/
theorem _root_.L2.Inv.lstR {X : Cx} {pins : List (Addr × Obj)} {σ : L2.St} {H : Hp} {s : Shared} {l : Addr} {xs : List V} (I : Inv X pins σ H s) (hH : Rd H l (.lst xs)) :
    xs.length ≤ sizeLine ∧ ∃ (its : List Value) (n : Nat), Vals xs its ∧ xs.length = its.length ∧ s.heap.get? l = some { cls := .type "list", data := .seq its.toArray n } := by
  obtain ⟨z, its, n, r, e⟩ := hH.ok I.hok
  exact ⟨z, its, n, r, r.length, e⟩
def rCatR : R2 := fun x y H Q => ∃ l b xs zs, x = .ref l ∧ y = .ref b ∧ Rd H l (.lst xs) ∧ Rd H b (.lst zs) ∧ xs.length + zs.length ≤ sizeLine ∧ ∀ p, H p = none → Q (.ref p) (upd H p (.lst (xs ++ zs)))
theorem op_catR {X : Cx} : OpR X (binaryOp .Add) rCatR := by
  intro pins s σ H x y v u Q I rx ry h
  obtain ⟨l, b, xs, zs, rfl, rfl, hH, hB, hz, q⟩ := h
  cases rx
  cases ry
  obtain ⟨z, its, n, r, hl, e⟩ := I.lstR hH
  obtain ⟨z2, its2, n2, r2, hl2, e2⟩ := I.lstR hB
  refine PySem.P.add_list e e2 ?_ (by rw [List.size_toArray, List.size_toArray]; omega)
  have ea : its.toArray ++ its2.toArray = (its ++ its2).toArray := by simp
  rw [ea]
  exact ⟨.ref _, _, I.lnew (t' := s.toks) (r.append r2) (by rw [List.length_append]; omega), rfl, q _ I.fresh⟩
def rRepR : R2 := fun x y H Q => ∃ l k xs, x = .ref l ∧ y = .int k ∧ Rd H l (.lst xs) ∧ -(2 ^ 63) ≤ k ∧ k < 2 ^ 63 ∧ xs.length * k.toNat ≤ sizeLine ∧
  ∀ p, H p = none → Q (.ref p) (upd H p (.lst (List.replicate k.toNat xs).flatten))
theorem op_repR {X : Cx} : OpR X (binaryOp .Mult) rRepR := by
  intro pins s σ H x y v u Q I rx ry h
  obtain ⟨l, k, xs, rfl, rfl, hH, h1, h2, hz, q⟩ := h
  cases rx
  obtain ⟨t, rfl⟩ := ry
  obtain ⟨z, its, n, r, hl, e⟩ := I.lstR hH
  have hlen : its.toArray.size * k.toNat ≤ sizeLine := by rw [List.size_toArray, ← hl]; exact hz
  have hcap : ¬ its.toArray.size * k.toNat > (2 ^ 63 - 1) / 8 := by
    have : (sizeLine : Nat) ≤ (2 ^ 63 - 1) / 8 := by decide
    omega
  have hfit : ¬ (!Builtin.List.listFitsIndex k) = true := by
    rw [fitsIndex_both h1 h2]
    exact Bool.false_ne_true
  have hlong : ¬ Builtin.List.listTooLong (its.toArray.size * k.toNat) = true := by
    rw [notLongL hlen]
    exact Bool.false_ne_true
  have hnew : List.foldl (fun x1 x2 => x1 ++ x2) #[] (List.replicate (if its.toArray.isEmpty = true then 0 else k.toNat) its.toArray) = (List.replicate k.toNat its).flatten.toArray := by
    have f0 : ∀ m : Nat, List.foldl (fun x1 x2 => x1 ++ x2) #[] (List.replicate m its.toArray) = (List.replicate m its).flatten.toArray := fun m => by
      have := foldl_rep its m []
      rw [List.nil_append] at this
      exact this
    rw [f0]
    cases its with
    | nil => simp
    | cons a r' => rw [if_neg (by simp)]
  refine wpAny_binaryOp_repeat_ref (T := "list") (U := "int") (by decide) ⟨_, e, rfl⟩ (fun s' => typeIs_int s' k t) noFill_list_mul F.fills_int_mul F.slot_int_rmul repeat_list F.slot_int_index.lookup
    (call_meets F.slot_int_rmul (typeIs_int s k t) F.entry_int_rmul (F.args_int_rmul_2 _ _) (int___rmul___int_list k t l its.toArray n)
      ⟨e, rfl, ⟨_, e, rfl⟩, call_meets F.slot_list_mul ⟨_, e, rfl⟩ F.entry_list_mul (F.args_list_mul_2 _ _) (AutoListH.list___mul___list_int_3 l its.toArray n k t hfit hcap hlong) ⟨e, ?_⟩⟩)
  rw [hnew]
  exact ⟨.ref _, _, I.lnew (t' := s.toks) (r.rep k.toNat) (by rw [PyProof.Rows.lm_len_rep_flat, Nat.mul_comm]; exact hz), rfl, q _ I.fresh⟩

/-! ### what a result needs -/
section
variable {K : Fr} {F H : Hp}
theorem vn0 {d : D} {v : V} {Q : VK} (fh : Sub F H) (r : Rep K F d v) (k : ∀ v F' H', Grow F H F' H' → VN K H F' H' (false, d) v → Q v H') : Q v H := k v F H (Grow.refl fh) r
theorem vnI {i : Int} {Q : VK} (fh : Sub F H) (k : ∀ v F' H', Grow F H F' H' → VN K H F' H' (false, .int i) v → Q v H') : Q (.int i) H := k _ F H (Grow.refl fh) rfl
theorem vnB {i : Bool} {Q : VK} (fh : Sub F H) (k : ∀ v F' H', Grow F H F' H' → VN K H F' H' (false, .bl i) v → Q v H') : Q (.bl i) H := k _ F H (Grow.refl fh) rfl
theorem vnS {i : List Nat} {Q : VK} (fh : Sub F H) (k : ∀ v F' H', Grow F H F' H' → VN K H F' H' (false, .str i) v → Q v H') : Q (.str (st i)) H := k _ F H (Grow.refl fh) rfl
theorem vnL {p : Addr} {ds : List D} {vs : List V} {Q : VK} (fh : Sub F H) (hp : H p = none) (r : Reps K F ds vs) (k : ∀ v F' H', Grow F H F' H' → VN K H F' H' (true, .lst ds) v → Q v H') : Q (.ref p) (upd H p (.lst vs)) :=
  k _ F _ ⟨Sub.refl _, Sub.upd hp, fh.trans (Sub.upd hp), fun _ _ e => .inl e⟩ ⟨p, rfl, hp, fh.none hp, vs, upd_same, r⟩
theorem growT {p : Addr} {o : HO} (fh : Sub F H) (hp : H p = none) : Grow F H (upd F p o) (upd H p o) where
  f := Sub.upd (fh.none hp)
  h := Sub.upd hp
  fh := fun a u e => by
    by_cases z : a = p
    · subst z; rw [upd_same] at e ⊢; exact e
    · rw [upd_ne z] at e ⊢; exact fh a u e
  new := fun a u e => by
    by_cases z : a = p
    · subst z; exact .inr hp
    · rw [upd_ne z] at e; exact .inl e
theorem vnT {p : Addr} {ds : List D} {vs : List V} {Q : VK} (fh : Sub F H) (hp : H p = none) (r : Reps K F ds vs) (k : ∀ v F' H', Grow F H F' H' → VN K H F' H' (false, .tup ds) v → Q v H') : Q (.ref p) (upd H p (.tup vs)) :=
  k _ _ _ (growT fh hp) (by
    show Rep K _ (.tup ds) _
    unfold Rep
    exact ⟨p, vs, rfl, .inl (.inl upd_same), Reps.mono (Sub.upd (fh.none hp)) _ _ r⟩)
theorem pkTup {ds : List D} {v : V} (h : PkR K F H (.tup ds) v) : ∃ a vs, v = .ref a ∧ SqT K F a vs ∧ Reps K F ds vs := by
  have h' : Rep K F (.tup ds) v := h
  unfold Rep at h'
  exact h'
theorem repTup {ds : List D} {a : Addr} {vs : List V} (h : SqT K F a vs) (r : Reps K F ds vs) : Rep K F (.tup ds) (.ref a) := by
  unfold Rep; exact ⟨a, vs, rfl, h, r⟩
theorem reps_nil_iff {ds : List D} {vs : List V} (r : Reps K F ds vs) : vs = [] ↔ ds = [] := by
  have := r.length
  constructor
  · intro e; subst e; exact List.length_eq_zero_iff.mp (by simpa using this)
  · intro e; subst e; exact r.inv0

/-! ### + -/
def addD : D → D → Option Slot
  | .int i, .int j => some (false, .int (i + j))
  | .str s, .str t => if s.length + t.length ≤ sizeLine then some (false, .str (s ++ t)) else none
  | .lst a, .lst b => if a.length + b.length ≤ sizeLine then some (true, .lst (a ++ b)) else none
  | .tup a, .tup b => if a.length + b.length ≤ sizeLine then some (false, .tup (a ++ b)) else none
  | .int i, .bl k => some (false, .int (i + b2i k))
  | _, _ => none
def rAddS : R2 := fun x y H Q => ∃ i j, x = .str i ∧ y = .str j ∧ i.length + j.length ≤ sizeLine ∧ Q (.str (i ++ j)) H
def rAddB : R2 := fun x y H Q => ∃ i k, x = .int i ∧ y = .bl k ∧ Q (.int (i + b2i k)) H
def rAddI : R2 := rI0 fun i j => .int (i + j)
def rAddA (K : Fr) : R2 := fun x y H Q => rAddI x y H Q ∨ (rAddS x y H Q ∨ (rCatR x y H Q ∨ (rCatA K x y H Q ∨ rAddB x y H Q)))
theorem st_app (s t : List Nat) : st s ++ st t = st (s ++ t) := by
  show (⟨s.toArray ++ t.toArray⟩ : Str) = ⟨(s ++ t).toArray⟩
  simp
theorem op_addA {X : Cx} : OpR X (binaryOp .Add) (rAddA X.K) := OpR.or (r := rAddI) op_add (OpR.or (r := rAddS) op_add_str (OpR.or op_catR (OpR.or (r := rCatA X.K) op_catA (op_add_ib (X := X)))))
theorem ok_add : OpOk K addD (rAddA K) := by
  intro F H d1 d2 x y s Q fh r1 r2 e k
  unfold addD at e
  split at e
  · cases e
    exact .inl ⟨_, _, r1, r2, vnI fh k⟩
  · split at e
    · cases e
      rename_i s t hz
      exact .inr (.inl ⟨_, _, r1, r2, hz, by rw [st_app]; exact vnS fh k⟩)
    · cases e
  · split at e
    · cases e
      obtain ⟨a, vs, e1, h1, k1⟩ := r1
      obtain ⟨b, us, e2, h2, k2⟩ := r2
      rename_i hz
      exact .inr (.inr (.inl ⟨a, b, vs, us, e1, e2, h1, h2, by rw [← k1.length, ← k2.length]; exact hz, fun p hp => vnL fh hp (k1.append k2) k⟩))
    · cases e
  · split at e
    · cases e
      obtain ⟨a, vs, e1, h1, k1⟩ := pkTup r1
      obtain ⟨b, us, e2, h2, k2⟩ := pkTup r2
      rename_i hz
      refine .inr (.inr (.inr (.inl ⟨a, b, vs, us, e1, e2, fh.sqT h1, fh.sqT h2, by rw [← k1.length, ← k2.length]; exact hz, fun z => ?_, fun _ z => ?_, fun _ _ p hp => vnT fh hp (k1.append k2) k⟩)))
      · have z := (reps_nil_iff k1).mp z
        subst z
        exact vn0 fh (repTup h2 k2) k
      · have z := (reps_nil_iff k2).mp z
        subst z
        rw [List.append_nil] at k
        exact vn0 fh (repTup h1 k1) k
    · cases e
  · cases e
    exact .inr (.inr (.inr (.inr ⟨_, _, r1, r2, vnI fh k⟩)))
  · cases e

/-! ### the other operators of ints; list times int -/
def subD : D → D → Option Slot
  | .int i, .int j => some (false, .int (i - j))
  | _, _ => none
theorem ok_sub : OpOk K subD (rI0 fun i j => .int (i - j)) := by
  intro F H d1 d2 x y s Q fh r1 r2 e k
  unfold subD at e
  split at e
  · cases e
    exact ⟨_, _, r1, r2, vnI fh k⟩
  · cases e
/-- sizes for which a product of ints is known to be made -/
def mulOk (i j : Int) : Bool := decide (i.natAbs.log2 + j.natAbs.log2 < 1000000) || (decide (-(2 ^ 64) < i ∧ i < 2 ^ 64) || decide (-(2 ^ 64) < j ∧ j < 2 ^ 64))
def strRep (s : List Nat) (k : Nat) : List Nat := (List.replicate k s).flatten
def mulD : D → D → Option Slot
  | .int i, .int j => if mulOk i j then some (false, .int (i * j)) else none
  | .lst a, .int k => if a.length * k.toNat ≤ sizeLine ∧ -(2 ^ 63) ≤ k ∧ k < 2 ^ 63 then some (true, .lst (List.replicate k.toNat a).flatten) else none
  | .str a, .int k => if a.length * k.toNat ≤ sizeLine ∧ -(2 ^ 62) ≤ k ∧ k < 2 ^ 62 then some (false, .str (strRep a k.toNat)) else none
  | _, _ => none
def rMulI : R2 := rI (fun i j => CMulW i j ∨ CMul i j) fun i j => .int (i * j)
def rMulS : R2 := fun x y H Q => ∃ a k, x = .str (st a) ∧ y = .int k ∧ a.length * k.toNat ≤ sizeLine ∧ -(2 ^ 62) ≤ k ∧ k < 2 ^ 62 ∧ Q (.str (st (strRep a k.toNat))) H
theorem fold_reps (a : List Nat) : ∀ (k : Nat) (acc : List Nat), List.foldl (fun x1 x2 => x1 ++ x2) acc.toArray (List.replicate k a.toArray) = (acc ++ (List.replicate k a).flatten).toArray
  | 0, acc => by simp
  | k + 1, acc => by
    rw [List.replicate_succ, List.foldl_cons, List.append_toArray, fold_reps a k, List.replicate_succ, List.flatten_cons, List.append_assoc]
theorem txt_mul {a : List Nat} {k : Int} : Txt.mul (st a) k = st (strRep a k.toNat) := by
  unfold Txt.mul strRep
  by_cases h : k < 1
  · rw [if_pos h, show k.toNat = 0 by omega]
    rfl
  · rw [if_neg h]
    by_cases h2 : k = 1
    · subst h2
      simp [st]
    · by_cases h3 : a = []
      · subst h3
        simp [st, Str.length]
      · have h3' : a.length ≠ 0 := fun z => h3 (List.length_eq_zero_iff.mp z)
        rw [if_neg (by simp [st, Str.length, h2, h3])]
        have := fold_reps a k.toNat []
        rw [List.nil_append] at this
        show Str.mk _ = Str.mk _
        rw [show (#[] : Array Nat) = ([] : List Nat).toArray from rfl]
        rw [show (st a).cps = a.toArray from rfl, this]
theorem op_mulS {X : Cx} : OpR X (binaryOp .Mult) rMulS := by
  intro pins s σ H x y v u Q I rx ry h
  obtain ⟨a, k, rfl, rfl, hz, h1, h2, q⟩ := h
  obtain ⟨t, rfl⟩ := rx
  obtain ⟨t', rfl⟩ := ry
  have hl : (st a).length = a.length := by simp [st, Str.length]
  refine SB.mul ⟨?_, fun g1 g2 => ?_, fun g1 g2 => ?_⟩ fun t' k' => ⟨.str (st (strRep a k.toNat)), H, I.tok _, ⟨t', by rw [txt_mul]⟩, q⟩
  · have e1 : decide (k < -(2 ^ 63 : Int)) = false := decide_eq_false (by omega)
    have e2 : decide (k ≥ 2 ^ 63) = false := decide_eq_false (by omega)
    rw [e1, e2, Bool.or_false]
  · rw [hl]
    have g : (a.length : Int) * k ≤ 16777216 := by
      have : ((a.length * k.toNat : Nat) : Int) ≤ 16777216 := by
        have : (sizeLine : Nat) = 16777216 := rfl
        omega
      rw [Int.natCast_mul, Int.toNat_of_nonneg (by omega)] at this
      exact this
    have g3 : ((2 : Int) ^ 63 - 1) / k ≥ 1 := by
      have : (1 : Int) ≤ ((2 : Int) ^ 63 - 1) / k := by
        rw [Int.le_ediv_iff_mul_le (by omega)]
        omega
      exact this
    have : (a.length : Int) ≤ ((2 : Int) ^ 63 - 1) / k := by
      rw [Int.le_ediv_iff_mul_le (by omega)]
      omega
    omega
  · rw [hl]
    unfold Builtin.Str.tooLong
    exact decide_eq_false (by omega)
def rMulA : R2 := fun x y H Q => rMulI x y H Q ∨ (rRepR x y H Q ∨ rMulS x y H Q)
theorem op_mulI2 {X : Cx} : OpR X (binaryOp .Mult) rMulI := by
  intro pins s σ H x y v u Q I rx ry h
  obtain ⟨i, j, e1, e2, hc | hc, q⟩ := h
  · exact op_mulW pins s σ H x y v u Q I rx ry ⟨i, j, e1, e2, hc, q⟩
  · exact op_mul pins s σ H x y v u Q I rx ry ⟨i, j, e1, e2, hc, q⟩
theorem op_mulA {X : Cx} : OpR X (binaryOp .Mult) rMulA := OpR.or (r := rMulI) op_mulI2 (OpR.or op_repR op_mulS)
theorem Reps.rep {ds : List D} {vs : List V} (r : Reps K F ds vs) : ∀ k : Nat, Reps K F (List.replicate k ds).flatten (List.replicate k vs).flatten
  | 0 => Reps.nil
  | k + 1 => by
    rw [List.replicate_succ, List.replicate_succ, List.flatten_cons, List.flatten_cons]
    exact r.append (Reps.rep r k)
theorem mulOk_c {i j : Int} (h : mulOk i j = true) : CMulW i j ∨ CMul i j := by
  unfold mulOk at h
  rcases Bool.or_eq_true_iff.mp h with h | h
  · exact .inl (of_decide_eq_true (p := _ < 1000000) h)
  · rcases Bool.or_eq_true_iff.mp h with h | h
    · exact .inr (.inl (of_decide_eq_true h))
    · exact .inr (.inr (of_decide_eq_true h))
theorem ok_mul : OpOk K mulD rMulA := by
  intro F H d1 d2 x y s Q fh r1 r2 e k
  unfold mulD at e
  split at e
  · split at e
    · cases e
      rename_i hm
      exact .inl ⟨_, _, r1, r2, mulOk_c hm, vnI fh k⟩
    · cases e
  · split at e
    · cases e
      rename_i hz
      obtain ⟨a, vs, e1, h1, k1⟩ := r1
      exact .inr (.inl ⟨a, _, vs, e1, r2, h1, hz.2.1, hz.2.2, by rw [← k1.length]; exact hz.1, fun p hp => vnL fh hp (k1.rep _) k⟩)
    · cases e
  · split at e
    · cases e
      rename_i hz
      exact .inr (.inr ⟨_, _, r1, r2, hz.1, hz.2.1, hz.2.2, vnS fh k⟩)
    · cases e
  · cases e
def fdivD : D → D → Option Slot
  | .int i, .int j => if 0 < j ∧ j.natAbs.log2 < 9000 then some (false, .int (i / j)) else if j < 0 ∧ j.natAbs.log2 < 9000 then some (false, .int (i.fdiv j)) else none
  | _, _ => none
def CDivX (i j : Int) : Prop := j ≠ 0 ∧ j.natAbs.log2 < 9000
theorem op_fdivX {X : Cx} : OpR X (binaryOp .FloorDiv) (rI CDivX fun i j => .int (i.fdiv j)) := opI fun _ _ _ _ _ _ _ hc q => PyProof.Rows.floordiv_int hc.1 q (.inl (PyProof.noPylong_of_log2 hc.2))
theorem ok_fdivX : OpOk K fdivD (rI CDivX fun i j => .int (i.fdiv j)) := by
  intro F H d1 d2 x y s Q fh r1 r2 e k
  unfold fdivD at e
  split at e
  · split at e
    · cases e
      rename_i hm
      refine ⟨_, _, r1, r2, ⟨by omega, hm.2⟩, ?_⟩
      show Q (.int (Int.fdiv _ _)) H
      rw [Int.fdiv_eq_ediv_of_nonneg _ (Int.le_of_lt hm.1)]
      exact vnI fh k
    · split at e
      · cases e
        rename_i hm
        exact ⟨_, _, r1, r2, ⟨by omega, hm.2⟩, vnI fh k⟩
      · cases e
  · cases e
theorem iop_fdivX {X : Cx} : OpR X (inplaceOp .FloorDiv) (rI CDivX fun i j => .int (i.fdiv j)) := opI fun _ _ _ _ _ _ _ hc q => PyProof.Rows.ifloordiv_int hc.1 q (.inl (PyProof.noPylong_of_log2 hc.2))
def modD : D → D → Option Slot
  | .int i, .int j => if 0 < j then some (false, .int (i % j)) else none
  | _, _ => none
theorem ok_mod : OpOk K modD (rI (fun _ j => 0 < j) fun i j => .int (i % j)) := by
  intro F H d1 d2 x y s Q fh r1 r2 e k
  unfold modD at e
  split at e
  · split at e
    · cases e
      rename_i hm
      exact ⟨_, _, r1, r2, hm, vnI fh k⟩
    · cases e
  · cases e
def powD : D → D → Option Slot
  | .int i, .int j => if 0 ≤ j ∧ j ≤ 1000000 ∧ i.natAbs < 2 ^ 64 then some (false, .int (i ^ j.toNat)) else none
  | _, _ => none
theorem ok_pow : OpOk K powD (rI CPow fun i j => .int (i ^ j.toNat)) := by
  intro F H d1 d2 x y s Q fh r1 r2 e k
  unfold powD at e
  split at e
  · split at e
    · cases e
      rename_i hm
      exact ⟨_, _, r1, r2, hm, vnI fh k⟩
    · cases e
  · cases e
def shlD : D → D → Option Slot
  | .int i, .int j => if 0 ≤ j ∧ j ≤ 1000000 ∧ i.natAbs < 2 ^ 64 then some (false, .int (i * 2 ^ j.toNat)) else none
  | _, _ => none
theorem ok_shl : OpOk K shlD (rI CPow fun i j => .int (i * 2 ^ j.toNat)) := by
  intro F H d1 d2 x y s Q fh r1 r2 e k
  unfold shlD at e
  split at e
  · split at e
    · cases e
      rename_i hm
      exact ⟨_, _, r1, r2, hm, vnI fh k⟩
    · cases e
  · cases e
def shrD : D → D → Option Slot
  | .int i, .int j => if 0 ≤ j then some (false, .int (i / 2 ^ j.toNat)) else none
  | _, _ => none
theorem ok_shr : OpOk K shrD (rI (fun _ j => 0 ≤ j) fun i j => .int (i / 2 ^ j.toNat)) := by
  intro F H d1 d2 x y s Q fh r1 r2 e k
  unfold shrD at e
  split at e
  · split at e
    · cases e
      rename_i hm
      exact ⟨_, _, r1, r2, hm, vnI fh k⟩
    · cases e
  · cases e
def bitD (f : Int → Int → Int) : D → D → Option Slot
  | .int i, .int j => some (false, .int (f i j))
  | _, _ => none
theorem ok_bit {f : Int → Int → Int} : OpOk K (bitD f) (rI0 fun i j => .int (f i j)) := by
  intro F H d1 d2 x y s Q fh r1 r2 e k
  unfold bitD at e
  split at e
  · cases e
    exact ⟨_, _, r1, r2, vnI fh k⟩
  · cases e

/-! ### comparisons -/
def ltL : List Nat → List Nat → Bool
  | _, [] => false
  | [], _ :: _ => true
  | a :: r, b :: t => decide (a < b) || (decide (a = b) && ltL r t)
theorem ltL_iff : ∀ {a b : List Nat}, ltL a b = true ↔ a < b
  | [], [] => by simp [ltL]
  | _ :: _, [] => by simp [ltL]
  | [], _ :: _ => by simp [ltL]
  | a :: r, b :: t => by
    rw [List.cons_lt_cons_iff]
    simp [ltL, ltL_iff (a := r) (b := t)]
theorem ltL_eq {a b : List Nat} : decide (a < b) = ltL a b := by
  by_cases h : a < b
  · rw [decide_eq_true h, ltL_iff.mpr h]
  · rw [decide_eq_false h]
    cases q : ltL a b with
    | false => rfl
    | true => exact absurd (ltL_iff.mp q) h
def cmpD (f : Int → Int → Bool) (g : List Nat → List Nat → Bool) : D → D → Option Slot
  | .int i, .int j => some (false, .bl (f i j))
  | .str i, .str j => some (false, .bl (g i j))
  | _, _ => none
def rCmp (f : Int → Int → Bool) (g : List Nat → List Nat → Bool) : R2 := fun x y H Q => (∃ i j, x = .int i ∧ y = .int j ∧ Q (.bl (f i j)) H) ∨ (∃ i j, x = .str i ∧ y = .str j ∧ Q (.bl (g i.cps.toList j.cps.toList)) H)
theorem ok_cmp {f : Int → Int → Bool} {g : List Nat → List Nat → Bool} : OpOk K (cmpD f g) (rCmp f g) := by
  intro F H d1 d2 x y s Q fh r1 r2 e k
  unfold cmpD at e
  split at e
  · cases e
    exact .inl ⟨_, _, r1, r2, vnB fh k⟩
  · cases e
    exact .inr ⟨_, _, r1, r2, vnB fh k⟩
  · cases e
def ltD : D → D → Option Slot := cmpD (fun i j => decide (i < j)) ltL
def leD : D → D → Option Slot := cmpD (fun i j => decide (i ≤ j)) (fun a b => !ltL b a)
def gtD : D → D → Option Slot := cmpD (fun i j => decide (j < i)) (fun a b => ltL b a)
def geD : D → D → Option Slot := cmpD (fun i j => decide (j ≤ i)) (fun a b => !ltL a b)
theorem op_ltA {X : Cx} : OpR X (compareOp .Lt) (rCmp (fun i j => decide (i < j)) ltL) := OpR.or (r := fun x y H Q => ∃ i j, x = .int i ∧ y = .int j ∧ Q (.bl (decide (i < j))) H) op_lt fun pins s σ H x y v u Q I rx ry ⟨i, j, e1, e2, q⟩ => op_lt_str pins s σ H x y v u Q I rx ry ⟨i, j, e1, e2, by rw [ltL_eq]; exact q⟩
theorem op_leA {X : Cx} : OpR X (compareOp .LtE) (rCmp (fun i j => decide (i ≤ j)) (fun a b => !ltL b a)) := OpR.or (r := fun x y H Q => ∃ i j, x = .int i ∧ y = .int j ∧ Q (.bl (decide (i ≤ j))) H) op_le fun pins s σ H x y v u Q I rx ry ⟨i, j, e1, e2, q⟩ => op_le_str pins s σ H x y v u Q I rx ry ⟨i, j, e1, e2, by rw [ltL_eq]; exact q⟩
theorem op_gtA {X : Cx} : OpR X (compareOp .Gt) (rCmp (fun i j => decide (j < i)) (fun a b => ltL b a)) := OpR.or (r := fun x y H Q => ∃ i j, x = .int i ∧ y = .int j ∧ Q (.bl (decide (j < i))) H) op_gt fun pins s σ H x y v u Q I rx ry ⟨i, j, e1, e2, q⟩ => op_gt_str pins s σ H x y v u Q I rx ry ⟨i, j, e1, e2, by rw [ltL_eq]; exact q⟩
theorem op_geA {X : Cx} : OpR X (compareOp .GtE) (rCmp (fun i j => decide (j ≤ i)) (fun a b => !ltL a b)) := OpR.or (r := fun x y H Q => ∃ i j, x = .int i ∧ y = .int j ∧ Q (.bl (decide (j ≤ i))) H) op_ge fun pins s σ H x y v u Q I rx ry ⟨i, j, e1, e2, q⟩ => op_ge_str pins s σ H x y v u Q I rx ry ⟨i, j, e1, e2, by rw [ltL_eq]; exact q⟩
end
/-! ### == -/
mutual
def toPy : D → Option PyData
  | .non => some .none
  | .bl b => some (.bool b)
  | .int i => some (.int i)
  | .str s => some (.str (st s))
  | .lst ds => (toPys ds).map .list
  | .tup ds => (toPys ds).map .tuple
  | .dic _ _ => none
  | .raw _ => none
def toPys : List D → Option (List PyData)
  | [] => some []
  | d :: ds => (toPy d).bind fun p => (toPys ds).map fun ps => p :: ps
end
mutual
theorem dp_of {K : Fr} {F : Hp} : ∀ (d : D) (v : V) (p : PyData), Rep K F d v → toPy d = some p → Dp K F v p
  | .non, v, p, h, e => by cases e; have h : v = .non := h; subst h; exact .non
  | .bl b, v, p, h, e => by cases e; have h : v = .bl b := h; subst h; exact .bl b
  | .int i, v, p, h, e => by cases e; have h : v = .int i := h; subst h; exact .int i
  | .str s, v, p, h, e => by cases e; have h : v = .str (st s) := h; subst h; exact .str _
  | .lst ds, v, p, h, e => by
    unfold Rep at h
    obtain ⟨a, vs, rfl, s, r⟩ := h
    unfold toPy at e
    cases q : toPys ds with
    | none => rw [q] at e; cases e
    | some ps => rw [q] at e; cases e; exact .lst (.inl s) (dps_of ds vs ps r q)
  | .tup ds, v, p, h, e => by
    unfold Rep at h
    obtain ⟨a, vs, rfl, s, r⟩ := h
    unfold toPy at e
    cases q : toPys ds with
    | none => rw [q] at e; cases e
    | some ps => rw [q] at e; cases e; exact .tup s (dps_of ds vs ps r q)
  | .dic _ _, _, _, _, e => by unfold toPy at e; cases e
  | .raw _, _, _, _, e => by unfold toPy at e; cases e
theorem dps_of {K : Fr} {F : Hp} : ∀ (ds : List D) (vs : List V) (ps : List PyData), Reps K F ds vs → toPys ds = some ps → DpAll K F vs ps
  | [], vs, ps, h, e => by rw [h.inv0]; cases e; exact .nil
  | d :: ds, vs, ps, h, e => by
    obtain ⟨v, r, rfl, k1, k2⟩ := h.inv
    unfold toPys at e
    cases q : toPy d with
    | none => rw [q] at e; cases e
    | some p =>
      rw [q] at e
      cases q2 : toPys ds with
      | none => rw [q2] at e; cases e
      | some ps' => rw [q2] at e; cases e; exact .cons (dp_of d v p k1 q) (dps_of ds r ps' k2 q2)
end
section
variable {K : Fr} {F H : Hp}
def eqvD (d1 d2 : D) : Option Bool := match toPy d1, toPy d2 with
  | some a, some b => if SeqAt.shaped a && SeqAt.shaped b then some (PyData.eqv a b) else none
  | _, _ => none
def eqD (d1 d2 : D) : Option Slot := (eqvD d1 d2).map fun b => (false, .bl b)
def neD (d1 d2 : D) : Option Slot := (eqvD d1 d2).map fun b => (false, .bl (!b))
theorem eqvD_dp {d1 d2 : D} {x y : V} {b : Bool} (fh : Sub F H) (r1 : PkR K F H d1 x) (r2 : PkR K F H d2 y) (e : eqvD d1 d2 = some b) : ∃ d e, Dp K H x d ∧ Dp K H y e ∧ SeqAt.shaped d = true ∧ SeqAt.shaped e = true ∧ PyData.eqv d e = b := by
  unfold eqvD at e
  split at e
  · rename_i a b' ea eb
    split at e
    · rename_i hs
      cases e
      have hs := Bool.and_eq_true_iff.mp hs
      exact ⟨a, b', dp_of _ _ _ (r1.rep fh) ea, dp_of _ _ _ (r2.rep fh) eb, hs.1, hs.2, rfl⟩
    · cases e
  · cases e
theorem ok_eq : OpOk K eqD (rEqD K) := by
  intro F H d1 d2 x y s Q fh r1 r2 e k
  unfold eqD at e
  cases q : eqvD d1 d2 with
  | none => rw [q] at e; cases e
  | some b =>
    rw [q] at e
    cases e
    obtain ⟨a, c, h1, h2, h3, h4, rfl⟩ := eqvD_dp fh r1 r2 q
    exact ⟨a, c, h1, h2, h3, h4, vnB fh k⟩
theorem ok_ne : OpOk K neD (rNeD K) := by
  intro F H d1 d2 x y s Q fh r1 r2 e k
  unfold neD at e
  cases q : eqvD d1 d2 with
  | none => rw [q] at e; cases e
  | some b =>
    rw [q] at e
    cases e
    obtain ⟨a, c, h1, h2, h3, h4, rfl⟩ := eqvD_dp fh r1 r2 q
    exact ⟨a, c, h1, h2, h3, h4, vnB fh k⟩
/-! ### is None, is True, is False -/
def isNonD : D → Option Bool
  | .non => some true
  | .raw _ => none
  | _ => some false
def isBlD (b : Bool) : D → Option Bool
  | .bl c => some (decide (c = b))
  | .raw _ => none
  | _ => some false
def isD : D → D → Option Slot
  | d, .non => (isNonD d).map fun b => (false, .bl b)
  | d, .bl c => (isBlD c d).map fun b => (false, .bl b)
  | _, _ => none
def isNotD : D → D → Option Slot
  | d, .non => (isNonD d).map fun b => (false, .bl (!b))
  | d, .bl c => (isBlD c d).map fun b => (false, .bl (!b))
  | _, _ => none
def isRef : V → Bool
  | .byt _ => false
  | .flt _ => false
  | .ty _ => false
  | _ => true
def rIsA : R2 := fun x y H Q => (y = .non ∧ Q (.bl (decide (x = .non))) H) ∨ ∃ b, y = .bl b ∧ isRef x = true ∧ Q (.bl (decide (x = .bl b))) H
def rIsNotA : R2 := fun x y H Q => (y = .non ∧ Q (.bl (!decide (x = .non))) H) ∨ ∃ b, y = .bl b ∧ isRef x = true ∧ Q (.bl (!decide (x = .bl b))) H
theorem isB_eq {x : V} {v : Value} {b : Bool} (r : RelV x v) (h : isRef x = true) : plainIs v (.bool b) = true ∧ (v == Value.bool b) = decide (x = .bl b) := by
  cases x with
  | non => cases r; exact ⟨rfl, rfl⟩
  | bl c => cases r; exact ⟨rfl, by cases c <;> cases b <;> rfl⟩
  | int i => obtain ⟨t, rfl⟩ := r; exact ⟨rfl, rfl⟩
  | str i => obtain ⟨t, rfl⟩ := r; exact ⟨rfl, rfl⟩
  | ref a => cases r; exact ⟨rfl, rfl⟩
  | byt i => cases h
  | flt i => cases h
  | ty i => cases h
theorem op_isA {X : Cx} : OpR X (compareOp .Is) rIsA := by
  intro pins s σ H x y v u Q I rx ry h
  rcases h with h | ⟨b, rfl, hr, q⟩
  · exact op_isN pins s σ H x y v u Q I rx ry h
  · cases (show u = Value.bool b from ry)
    obtain ⟨e1, e2⟩ := isB_eq (b := b) rx hr
    refine wpAny_is_plain e1 ⟨.bl (decide (x = .bl b)), H, I, ?_, q⟩
    show Value.bool _ = Value.bool _
    rw [e2]
theorem op_isNotA {X : Cx} : OpR X (compareOp .IsNot) rIsNotA := by
  intro pins s σ H x y v u Q I rx ry h
  rcases h with h | ⟨b, rfl, hr, q⟩
  · exact op_notN pins s σ H x y v u Q I rx ry h
  · cases (show u = Value.bool b from ry)
    obtain ⟨e1, e2⟩ := isB_eq (b := b) rx hr
    show wpAny _ _ ((isSame v (.bool b)) >>= fun z => pure (Value.bool (!z))) _ _ s
    refine wpAny_bind (wpAny_isSame_plain e1 (wpAny_pure ⟨.bl (!decide (x = .bl b)), H, I, ?_, q⟩))
    show Value.bool _ = Value.bool _
    rw [e2]
theorem isNon_ok {d : D} {x : V} {b : Bool} (r : PkR K F H d x) (e : isNonD d = some b) : decide (x = .non) = b := by
  cases d with
  | non => cases e; have r : x = .non := r; subst r; rfl
  | bl _ => cases e; have r : x = .bl _ := r; subst r; rfl
  | int _ => cases e; have r : x = .int _ := r; subst r; rfl
  | str _ => cases e; have r : x = .str _ := r; subst r; rfl
  | lst _ => cases e; obtain ⟨a, _, rfl, _⟩ := r; rfl
  | tup _ => cases e; obtain ⟨a, _, rfl, _⟩ := pkTup r; rfl
  | dic _ _ => cases e; obtain ⟨a, _, rfl, _⟩ := r; rfl
  | raw _ => cases e
theorem isBl_ok {d : D} {x : V} {b c : Bool} (r : PkR K F H d x) (e : isBlD c d = some b) : isRef x = true ∧ decide (x = .bl c) = b := by
  cases d with
  | non => cases e; have r : x = .non := r; subst r; exact ⟨rfl, rfl⟩
  | bl k => cases e; have r : x = .bl k := r; subst r; exact ⟨rfl, by cases k <;> cases c <;> rfl⟩
  | int _ => cases e; have r : x = .int _ := r; subst r; exact ⟨rfl, rfl⟩
  | str _ => cases e; have r : x = .str _ := r; subst r; exact ⟨rfl, rfl⟩
  | lst _ => cases e; obtain ⟨a, _, rfl, _⟩ := r; exact ⟨rfl, rfl⟩
  | tup _ => cases e; obtain ⟨a, _, rfl, _⟩ := pkTup r; exact ⟨rfl, rfl⟩
  | dic _ _ => cases e; obtain ⟨a, _, rfl, _⟩ := r; exact ⟨rfl, rfl⟩
  | raw _ => cases e
theorem ok_is : OpOk K isD rIsA := by
  intro F H d1 d2 x y s Q fh r1 r2 e k
  unfold isD at e
  split at e
  · cases q : isNonD d1 with
    | none => rw [q] at e; cases e
    | some b =>
      rw [q] at e
      cases e
      exact .inl ⟨r2, by rw [isNon_ok r1 q]; exact vnB fh k⟩
  · rename_i c
    cases q : isBlD c d1 with
    | none => rw [q] at e; cases e
    | some b =>
      rw [q] at e
      cases e
      obtain ⟨h1, h2⟩ := isBl_ok r1 q
      exact .inr ⟨c, r2, h1, by rw [h2]; exact vnB fh k⟩
  · cases e
theorem ok_isNot : OpOk K isNotD rIsNotA := by
  intro F H d1 d2 x y s Q fh r1 r2 e k
  unfold isNotD at e
  split at e
  · cases q : isNonD d1 with
    | none => rw [q] at e; cases e
    | some b =>
      rw [q] at e
      cases e
      exact .inl ⟨r2, by rw [isNon_ok r1 q]; exact vnB fh k⟩
  · rename_i c
    cases q : isBlD c d1 with
    | none => rw [q] at e; cases e
    | some b =>
      rw [q] at e
      cases e
      obtain ⟨h1, h2⟩ := isBl_ok r1 q
      exact .inr ⟨c, r2, h1, by rw [h2]; exact vnB fh k⟩
  · cases e
/-! ### an item, a part -/
def ixD : D → D → Option Slot
  | .lst xs, .int i => (atI xs i).map fun d => (false, d)
  | .tup xs, .int i => (atI xs i).map fun d => (false, d)
  | .str s, .int i => if s.length ≤ sizeLine then (atI s i).map fun c => (false, .str [c]) else none
  | _, _ => none
theorem Reps.atI {ds : List D} {vs : List V} (r : Reps K F ds vs) {i : Int} {d : D} (h : L2.atI ds i = some d) : ∃ v, L2.atI vs i = some v ∧ Rep K F d v := by
  unfold L2.atI at h ⊢
  rw [← r.length]
  cases q : ixN ds.length i with
  | none => rw [q] at h; cases h
  | some j =>
    rw [q] at h
    exact r.get h
theorem ok_ix : OpOk K ixD (rIx K) := by
  intro F H d1 d2 x y s Q fh r1 r2 e k
  unfold ixD at e
  split at e
  · rename_i xs i
    cases q : L2.atI xs i with
    | none => rw [q] at e; cases e
    | some d =>
      rw [q] at e
      cases e
      obtain ⟨a, vs, rfl, h1, k1⟩ := r1
      obtain ⟨v, hv, rv⟩ := k1.atI q
      exact .inl ⟨a, vs, i, v, rfl, r2, .inl h1, hv, vn0 fh rv k⟩
  · rename_i xs i
    cases q : L2.atI xs i with
    | none => rw [q] at e; cases e
    | some d =>
      rw [q] at e
      cases e
      obtain ⟨a, vs, rfl, h1, k1⟩ := pkTup r1
      obtain ⟨v, hv, rv⟩ := k1.atI q
      exact .inr (.inl ⟨a, vs, i, v, rfl, r2, fh.sqT h1, hv, vn0 fh rv k⟩)
  · rename_i s i
    split at e
    · rename_i hz
      cases q : L2.atI s i with
      | none => rw [q] at e; cases e
      | some c =>
        rw [q] at e
        cases e
        exact .inr (.inr ⟨st s, i, c, r1, r2, hz, q, vnS fh k⟩)
    · cases e
  · cases e
def cut {α : Type} (xs : List α) (lo hi : Option Int) : List α := (xs.drop (HT.sIx xs.length 0 lo)).take (HT.sIx xs.length xs.length hi - HT.sIx xs.length 0 lo)
def sliceD : D → Option Int → Option Int → Option Slot
  | .lst xs, lo, hi => some (true, .lst (cut xs lo hi))
  | .tup xs, lo, hi => some (false, .tup (cut xs lo hi))
  | .str s, lo, hi => if s.length ≤ sizeLine then some (false, .str (cut s lo hi)) else none
  | _, _, _ => none
theorem Reps.cut {ds : List D} {vs : List V} (r : Reps K F ds vs) (lo hi : Option Int) : Reps K F (PM.cut ds lo hi) (cutV vs lo hi) := by
  unfold PM.cut cutV
  rw [← r.length]
  exact (r.drop _).take _
def rSl (K : Fr) : V → Option Int → Option Int → Hp → VK → Prop := fun x lo hi H Q => rSlL K x lo hi H Q ∨ (rSlA K x lo hi H Q ∨ rSlS x lo hi H Q)
theorem sl_all {X : Cx} : L2.SlR X (rSl X.K) := L2.SlR.or sl_list (L2.SlR.or sl_tupA sl_str)
theorem cut_str (s : List Nat) (lo hi : Option Int) : cutS (st s) lo hi = st (cut s lo hi) := rfl
theorem ok_sl {d : D} {x : V} {lo hi : Option Int} {s : Slot} {Q : VK} (fh : Sub F H) (r : PkR K F H d x) (e : sliceD d lo hi = some s) (k : ∀ v F' H', Grow F H F' H' → VN K H F' H' s v → Q v H') : rSl K x lo hi H Q := by
  unfold sliceD at e
  split at e
  · cases e
    obtain ⟨a, vs, rfl, h1, k1⟩ := r
    exact .inl ⟨a, vs, rfl, .inl h1, fun p hp => vnL fh hp (k1.cut lo hi) k⟩
  · cases e
    obtain ⟨a, vs, rfl, h1, k1⟩ := pkTup r
    rename_i xs
    refine .inr (.inl ⟨a, vs, rfl, fh.sqT h1, fun ⟨z1, z2⟩ => ?_, fun _ p hp => vnT fh hp (k1.cut lo hi) k⟩)
    have e2 : cut xs lo hi = xs := by
      unfold cut
      rw [← k1.length] at z1 z2
      rw [z1, z2]
      simp
    rw [e2] at k
    exact vn0 fh (repTup h1 k1) k
  · split at e
    · cases e
      rename_i hz
      exact .inr (.inr ⟨_, r, hz, vnS fh k⟩)
    · cases e
  · cases e
end
end PM
namespace PM
open PySem L2 PyProof.Rows
variable {pp : Pin}

/-! ### items, parts -/
section
variable {X : Cx} {c : Ct} {e a b : Expr} {es : List Expr} {pos p2 : Pos}
theorem ix_imp {r : R2} {f : D → D → Option Slot} {A1 A2 : M D} (hr : IxR X r) (ok : OpOk c.K f r) (ha : PE X a (tP c A1)) (hb : PE X b (tP c A2)) (hs : PlainIx b) : PE X (.Subscript a b pos) (tE c (bin f A1 A2)) :=
  (pe_ix hr ha hb hs).imp fun _ _ _ h => op_tr ok h
theorem e_ix {A1 A2 : M D} (hk : c.K = X.K) (ha : PE X a (tP c A1)) (hb : PE X b (tP c A2)) (hs : PlainIx b) : PE X (.Subscript a b pos) (tE c (bin ixD A1 A2)) := ix_imp ix_seq (hk ▸ ok_ix) ha hb hs
/-- a part's end: none, or an int -/
def ono : M (Option Int) := fun ρ => .ok none ρ
def oin (A : M D) : M (Option Int) := A.bind fun d => M.lift (match d with | .int i => some (some i) | _ => none)
def rO : Hp → Hp → L2.St → Env → Option Int → Option Int → Prop := fun _ _ _ _ b b' => b' = b
abbrev tO' (c : Ct) (A : M (Option Int)) : TO := tG c rO A
theorem _root_.L2.PO.imp {o : Option Expr} {t t' : TO} (h : PO X o t) (k : ∀ σ H Q, t' σ H Q → t σ H Q) : PO X o t' := by
  exact ⟨fun pins s σ H Q I hw => h.run pins s σ H Q I (k σ H Q hw)⟩
theorem o_no : PO X none (tO' c ono) := po_none.imp fun σ H Q ⟨F, ρ, S, k⟩ => k none F H S (Sub.refl _) (Sub.refl _) rfl
theorem Aft.liftG {α : Type} {F H : Hp} {σ : L2.St} {ρ : Env} {o : Option α} {Q : α → Hp → Prop} (h : Aft c (fun _ _ _ _ (b b' : α) => b' = b) F H σ (M.lift o ρ) Q) (S : SRc c F H σ ρ) : ∃ b, o = some b ∧ Q b H := by
  cases o with
  | none => exact h.elim
  | some s => exact ⟨s, rfl, h s F H S (Sub.refl _) (Sub.refl _) rfl⟩
theorem o_in {A : M D} (h : PE X e (tP c A)) : PO X (some e) (tO' c (oin A)) := by
  refine (po_some h).imp fun σ H Q ⟨F, ρ, S, k⟩ => ⟨F, ρ, S, k.step fun d ρ1 x F1 H1 S1 r1 f1 h1 a1 => ?_⟩
  obtain ⟨b, e, q⟩ := Aft.liftG a1 S1
  cases d with
  | int i => cases e; exact ⟨i, r1, q⟩
  | _ => cases e
def sli (A : M D) (L U : M (Option Int)) : M Slot := A.bind fun d => L.bind fun lo => U.bind fun hi => M.lift (sliceD d lo hi)
theorem e_sli {lo hi : Option Expr} {A : M D} {L U : M (Option Int)} (hk : c.K = X.K) (ha : PE X e (tP c A)) (hl : PO X lo (tO' c L)) (hu : PO X hi (tO' c U)) : PE X (.Subscript e (.Slice lo hi none p2) pos) (tE c (sli A L U)) := by
  refine (pe_slice sl_all ha hl hu).imp fun σ H Q ⟨F, ρ, S, k⟩ => ⟨F, ρ, S, k.step fun d ρ1 x F1 H1 S1 r1 f1 h1 a1 => ⟨F1, ρ1, S1, a1.step fun l ρ2 l' F2 H2 S2 r2 f2 h2 a2 => ⟨F2, ρ2, S2, a2.step fun u ρ3 u' F3 H3 S3 r3 f3 h3 a3 => ?_⟩⟩⟩
  have r2 : l' = l := r2
  have r3 : u' = u := r3
  subst r2; subst r3
  obtain ⟨s, e, k⟩ := a3.lift S3
  exact hk ▸ ok_sl S3.fh (r1.mono (f2.trans f3) (h2.trans h3)) e k

/-! ### data handed on: a temporary list is frozen -/
def rF (c : Ct) : Hp → Hp → L2.St → Env → D → V → Prop := fun F _ _ _ d v => Rep c.K F d v
abbrev tF (c : Ct) (A : M D) : TE := tG c (rF c) A
theorem SR.freezeT {K : Fr} {B F0 F H : Hp} {σ : L2.St} {ρ : Env} {d : D} {v : V} (S : SR pp K B F0 F H σ ρ) (o : Own K B F H d v) (n : ∀ (i : Nat) (d' : D), ρ[i]? = some (some (true, d')) → σ[i]? ≠ some (some v)) :
    ∃ F', SR pp K B F0 F' H σ ρ ∧ Sub F F' ∧ Rep K F' d v := by
  obtain ⟨a, rfl, fa, ba, k⟩ := o
  obtain ⟨o, ho⟩ := k.there
  have hf : Sub F (upd F a o) := Sub.upd fa
  refine ⟨upd F a o, ⟨S.bh, fun b u q => ?_, S.f0.trans hf, fun b u q => ?_, S.len, fun j s q => ?_, S.sep, S.pk⟩, hf, k.rep hf fun u hu => ?_⟩
  · by_cases hb : b = a
    · subst hb; rw [upd_same] at q; cases q; exact ho
    · rw [upd_ne hb] at q; exact S.fh b u q
  · by_cases hb : b = a
    · subst hb; exact .inr ba
    · rw [upd_ne hb] at q; exact S.new b u q
  · obtain ⟨v, h1, h2⟩ := S.sl j s q
    refine ⟨v, h1, ?_⟩
    obtain ⟨ow, dj⟩ := s
    cases ow with
    | false => exact Rep.mono hf dj v h2
    | true =>
      obtain ⟨p, rfl, fp, bp, kp⟩ := h2
      have np : p ≠ a := fun z => by
        subst z
        exact n j dj q h1
      exact ⟨p, rfl, by rw [upd_ne np]; exact fp, bp, kp.mono hf fun u hu => hu⟩
  · rw [ho] at hu; cases hu; exact upd_same
theorem VR.freeze {F H : Hp} {σ : L2.St} {ρ : Env} {s : Slot} {v : V} (S : SRc c F H σ ρ) (r : VR c F H σ ρ s v) : ∃ F', SRc c F' H σ ρ ∧ Sub F F' ∧ Rep c.K F' s.2 v := by
  obtain ⟨o, d⟩ := s
  cases o with
  | false => exact ⟨F, S, Sub.refl _, r.1⟩
  | true => exact S.freezeT r.1 (r.2 rfl)
theorem f_of {A : M Slot} (h : PE X e (tE c A)) : PE X e (tF c (pk A)) := by
  refine h.imp fun σ H Q ⟨F, ρ, S, k⟩ => ⟨F, ρ, S, k.step fun s ρ1 x F1 H1 S1 r1 f1 h1 a1 => ?_⟩
  obtain ⟨F', S', f', r'⟩ := VR.freeze S1 r1
  exact a1 x F' H1 S' f' (Sub.refl _) r'
theorem p_ofF {A : M D} (h : PE X e (tF c A)) : PE X e (tP c A) := by
  refine h.imp fun σ H Q ⟨F, ρ, S, k⟩ => ⟨F, ρ, S, ?_⟩
  cases q : A ρ with
  | ok d ρ1 => rw [q] at k; exact fun v F' H' S' f' h' r => k v F' H' S' f' h' (Rep.pk S'.fh r)
  | exc x ρ1 => rw [q] at k; exact k
  | bad => rw [q] at k; exact k
def rFs (c : Ct) : Hp → Hp → L2.St → Env → List D → List V → Prop := fun F _ _ _ d v => Reps c.K F d v
abbrev tFs (c : Ct) (A : M (List D)) : TA := tG c (rFs c) A
def anil : M (List D) := fun ρ => .ok [] ρ
def acons (A : M D) (R : M (List D)) : M (List D) := A.bind fun d => R.bind fun ds ρ => .ok (d :: ds) ρ
theorem a_nil : PA X [] (tFs c anil) := pa_nil.imp fun σ H Q ⟨F, ρ, S, k⟩ => k [] F H S (Sub.refl _) (Sub.refl _) Reps.nil
theorem a_cons {A : M D} {R : M (List D)} (h : PE X e (tF c A)) (t : PA X es (tFs c R)) (hs : starEach (e :: es) X.env = (false, eval e X.env) :: starEach es X.env := by rfl) : PA X (e :: es) (tFs c (acons A R)) := by
  refine (pa_cons h t hs).imp fun σ H Q ⟨F, ρ, S, k⟩ => ⟨F, ρ, S, k.step fun d ρ1 x F1 H1 S1 r1 f1 h1 a1 => ⟨F1, ρ1, S1, a1.step fun ds ρ2 xs F2 H2 S2 r2 f2 h2 a2 => ?_⟩⟩
  exact a2 (x :: xs) F2 H2 S2 (Sub.refl _) (Sub.refl _) (Reps.cons (Rep.mono f2 _ _ r1) r2)
theorem q_nil : PA X [] (tPs c anil) := pa_nil.imp fun σ H Q ⟨F, ρ, S, k⟩ => k [] F H S (Sub.refl _) (Sub.refl _) rfl
theorem q_cons {A : M D} {R : M (List D)} (h : PE X e (tP c A)) (t : PA X es (tPs c R)) (hs : starEach (e :: es) X.env = (false, eval e X.env) :: starEach es X.env := by rfl) : PA X (e :: es) (tPs c (acons A R)) := by
  refine (pa_cons h t hs).imp fun σ H Q ⟨F, ρ, S, k⟩ => ⟨F, ρ, S, k.step fun d ρ1 x F1 H1 S1 r1 f1 h1 a1 => ⟨F1, ρ1, S1, a1.step fun ds ρ2 xs F2 H2 S2 r2 f2 h2 a2 => ?_⟩⟩
  exact a2 (x :: xs) F2 H2 S2 (Sub.refl _) (Sub.refl _) ⟨x, xs, rfl, r1.mono f2 h2, r2⟩
/-! ### displays -/
def lstE (R : M (List D)) : M Slot := R.bind fun ds => M.lift (if ds.length ≤ sizeLine then some (true, .lst ds) else none)
def tupE (R : M (List D)) : M Slot := R.bind fun ds => M.lift (if ds.length ≤ sizeLine then some (false, .tup ds) else none)
theorem e_lst {R : M (List D)} (h : PA X es (tFs c R)) : PE X (.List es pos) (tE c (lstE R)) := by
  refine (pe_lst h).imp fun σ H Q ⟨F, ρ, S, k⟩ => ⟨F, ρ, S, k.step fun ds ρ1 xs F1 H1 S1 r1 f1 h1 a1 => ?_⟩
  obtain ⟨s, e, k⟩ := a1.lift S1
  split at e
  · cases e
    rename_i hz
    exact ⟨by rw [← Reps.length r1]; exact hz, fun p hp => vnL S1.fh hp r1 k⟩
  · cases e
theorem e_tup {R : M (List D)} {x1} (h : PA X es (tFs c R)) : PE X (.Tuple es x1 pos) (tE c (tupE R)) := by
  refine (pe_tup h).imp fun σ H Q ⟨F, ρ, S, k⟩ => ⟨F, ρ, S, k.step fun ds ρ1 xs F1 H1 S1 r1 f1 h1 a1 => ?_⟩
  obtain ⟨s, e, k⟩ := a1.lift S1
  split at e
  · cases e
    rename_i hz
    exact ⟨by rw [← Reps.length r1]; exact hz, fun p hp => vnT S1.fh hp r1 k⟩
  · cases e
/-! ### built-ins called by name -/
def blt (f : List D → Option Slot) (R : M (List D)) : M Slot := R.bind fun ds => M.lift (f ds)
theorem cb_tr {f : List D → Option Slot} {r : List V → Hp → VK → Prop} {R : M (List D)} (ok : CallOk c.K f r) {σ : L2.St} {H : Hp} {Q : VK} (h : tE c (blt f R) σ H Q) : tCB r (tPs c R) σ H Q := by
  obtain ⟨F, ρ, S, k⟩ := h
  refine ⟨F, ρ, S, k.step fun ds ρ1 xs F1 H1 S1 r1 f1 h1 a1 => ?_⟩
  obtain ⟨s, e, k⟩ := a1.lift S1
  exact ok F1 H1 ds xs s Q S1.fh r1 e k
theorem e_blt {id : String} {x : Str} {p : Pos} {f : List D → Option Slot} {r : List V → Hp → VK → Prop} {R : M (List D)} (hc : CallR X (.builtin id) r) (ok : CallOk c.K f r) (hg : Gl X x) (hm : X.mg x = none) (hv : bootBuiltins x = some (.builtin id)) (ha : PA X (e :: es) (tPs c R))
    (hn : x ≠ "__name__" := by decide) (hdb : (x == ("__debug__" : Str)) = false := by decide) (he : starEach (e :: es) X.env = (false, eval e X.env) :: starEach es X.env := by rfl) (hpl : (backTo pos (starEach es X.env)).any (·.1) = false := by rfl) :
    PE X (.Call (.Name x p) (e :: es) [] pos) (tE c (blt f R)) := (pe_callB hc hg hm hv ha hn hdb he hpl).imp fun _ _ _ h => cb_tr ok h
theorem e_typ {T : String} {x : Str} {p : Pos} {f : List D → Option Slot} {r : List V → Hp → VK → Prop} {R : M (List D)} (hc : CallR X (.type T) r) (ok : CallOk c.K f r) (hg : Gl X x) (hm : X.mg x = none) (hv : bootBuiltins x = some (.type T)) (ha : PA X (e :: es) (tPs c R))
    (hn : x ≠ "__name__" := by decide) (hdb : (x == ("__debug__" : Str)) = false := by decide) (he : starEach (e :: es) X.env = (false, eval e X.env) :: starEach es X.env := by rfl) (hpl : (backTo pos (starEach es X.env)).any (·.1) = false := by rfl) :
    PE X (.Call (.Name x p) (e :: es) [] pos) (tE c (blt f R)) := (pe_callTy hc hg hm hv ha hn hdb he hpl).imp fun _ _ _ h => cb_tr ok h
end
section
variable {K : Fr} {F H : Hp}
theorem PkRs.one {d : D} {xs : List V} (h : PkRs K F H [d] xs) : ∃ x, xs = [x] ∧ PkR K F H d x := by
  obtain ⟨v, r, rfl, k, h2⟩ := h
  have h2 : r = [] := h2
  subst h2
  exact ⟨v, rfl, k⟩
theorem PkRs.two {d d' : D} {xs : List V} (h : PkRs K F H [d, d'] xs) : ∃ x y, xs = [x, y] ∧ PkR K F H d x ∧ PkR K F H d' y := by
  obtain ⟨v, r, rfl, k, h2⟩ := h
  obtain ⟨y, rfl, k2⟩ := h2.one
  exact ⟨v, y, rfl, k, k2⟩
/-- len -/
def lenD : List D → Option Slot
  | [.str s] => if s.length ≤ sizeLine then some (false, .int s.length) else none
  | [.lst xs] => some (false, .int xs.length)
  | [.tup xs] => some (false, .int xs.length)
  | _ => none
def rLenA (K : Fr) : List V → Hp → VK → Prop := fun xs H Q => ∃ x n, xs = [x] ∧ LenV K x H n ∧ Q (.int n) H
theorem ok_len : CallOk K lenD (rLenA K) := by
  intro F H ds xs s Q fh r e k
  unfold lenD at e
  split at e
  · split at e
    · cases e
      rename_i hz
      obtain ⟨x, rfl, r1⟩ := r.one
      have r1 : x = .str (st _) := r1
      subst r1
      exact ⟨_, _, rfl, ⟨hz, rfl⟩, vnI fh k⟩
    · cases e
  · cases e
    obtain ⟨x, rfl, a, vs, rfl, h1, k1⟩ := r.one
    exact ⟨_, vs.length, rfl, .inl ⟨vs, .inl h1, rfl⟩, by rw [← k1.length]; exact vnI fh k⟩
  · cases e
    obtain ⟨x, rfl, r1⟩ := r.one
    obtain ⟨a, vs, rfl, h1, k1⟩ := pkTup r1
    exact ⟨_, vs.length, rfl, .inr ⟨vs, fh.sqT h1, rfl⟩, by rw [← k1.length]; exact vnI fh k⟩
  · cases e
theorem op_lenA {X : Cx} : CallR X (.builtin "len") (rLenA X.K) := call_len
/-- int of an int, a bool -/
def intD : List D → Option Slot
  | [.int i] => some (false, .int i)
  | [.bl b] => some (false, .int (if b then 1 else 0))
  | _ => none
def rInt1 : List V → Hp → VK → Prop := fun xs H Q => (∃ i, xs = [.int i] ∧ Q (.int i) H) ∨ ∃ k, xs = [.bl k] ∧ Q (.int (if k then 1 else 0)) H
theorem ok_int : CallOk K intD rInt1 := by
  intro F H ds xs s Q fh r e k
  unfold intD at e
  split at e
  · cases e
    obtain ⟨x, rfl, r1⟩ := r.one
    have r1 : x = .int _ := r1
    subst r1
    exact .inl ⟨_, rfl, vnI fh k⟩
  · cases e
    obtain ⟨x, rfl, r1⟩ := r.one
    have r1 : x = .bl _ := r1
    subst r1
    exact .inr ⟨_, rfl, vnI fh k⟩
  · cases e
theorem op_int1 {X : Cx} : CallR X (.type "int") rInt1 := call_int1
/-- str of an int -/
def chars (i : Int) : List Nat := (toString i : String).toList.map Char.toNat
def strD : List D → Option Slot
  | [.int i] => if i.natAbs.log2 < 1920 then some (false, .str (Str.ofString (toString i)).cps.toList) else none
  | _ => none
def rStr1 : List V → Hp → VK → Prop := fun xs H Q => ∃ i, xs = [.int i] ∧ i.natAbs.log2 < 1920 ∧ Q (.str (toString i)) H
theorem ok_str : CallOk K strD rStr1 := by
  intro F H ds xs s Q fh r e k
  unfold strD at e
  split at e
  · split at e
    · cases e
      rename_i hz
      obtain ⟨x, rfl, r1⟩ := r.one
      have r1 : x = .int _ := r1
      subst r1
      refine ⟨_, rfl, hz, ?_⟩
      refine k _ F H (Grow.refl fh) ?_
      show V.str _ = V.str (st (Str.ofString _).cps.toList)
      rfl
    · cases e
  · cases e
theorem op_str1 {X : Cx} : CallR X (.type "str") rStr1 := call_str_int
/-- list(..), tuple(..) of a list, a tuple -/
def listD : List D → Option Slot
  | [.lst xs] => some (true, .lst xs)
  | [.tup xs] => some (true, .lst xs)
  | _ => none
def rList1 (K : Fr) : List V → Hp → VK → Prop := fun xs H Q => ∃ p ys, xs = [.ref p] ∧ (SqL K H p ys ∨ SqT K H p ys) ∧ ∀ l, H l = none → Q (.ref l) (upd H l (.lst ys))
theorem ok_list : CallOk K listD (rList1 K) := by
  intro F H ds xs s Q fh r e k
  unfold listD at e
  split at e
  · cases e
    obtain ⟨x, rfl, a, vs, rfl, h1, k1⟩ := r.one
    exact ⟨a, vs, rfl, .inl (.inl h1), fun p hp => vnL fh hp k1 k⟩
  · cases e
    obtain ⟨x, rfl, r1⟩ := r.one
    obtain ⟨a, vs, rfl, h1, k1⟩ := pkTup r1
    exact ⟨a, vs, rfl, .inr (fh.sqT h1), fun p hp => vnL fh hp k1 k⟩
  · cases e
theorem op_list1 {X : Cx} : CallR X (.type "list") (rList1 X.K) := call_list_of
def tupD : List D → Option Slot
  | [.lst xs] => some (false, .tup xs)
  | [.tup xs] => some (false, .tup xs)
  | _ => none
def rTup1 (K : Fr) : List V → Hp → VK → Prop := fun xs H Q => ∃ a ys, xs = [.ref a] ∧ ((SqL K H a ys ∧ ∀ l, H l = none → Q (.ref l) (upd H l (.tup ys))) ∨ (SqT K H a ys ∧ Q (.ref a) H))
theorem ok_tup : CallOk K tupD (rTup1 K) := by
  intro F H ds xs s Q fh r e k
  unfold tupD at e
  split at e
  · cases e
    obtain ⟨x, rfl, a, vs, rfl, h1, k1⟩ := r.one
    exact ⟨a, vs, rfl, .inl ⟨.inl h1, fun p hp => vnT fh hp k1 k⟩⟩
  · cases e
    obtain ⟨x, rfl, r1⟩ := r.one
    obtain ⟨a, vs, rfl, h1, k1⟩ := pkTup r1
    exact ⟨a, vs, rfl, .inr ⟨fh.sqT h1, vn0 fh (repTup h1 k1) k⟩⟩
  · cases e
theorem op_tup1 {X : Cx} : CallR X (.type "tuple") (rTup1 X.K) := call_tuple_of
/-- isinstance of a built-in type -/
inductive Ty where | non | bl | int | str | lst | tup | dic
  deriving DecidableEq
def Ty.name : Ty → String
  | .non => "NoneType" | .bl => "bool" | .int => "int" | .str => "str" | .lst => "list" | .tup => "tuple" | .dic => "dict"
def Ty.sub (a b : Ty) : Bool := decide (a = b) || (decide (a = .bl) && decide (b = .int))
theorem Ty.kit : ∀ a b : Ty, b ≠ .non → kitB a.name b.name = some (a.sub b) := by
  intro a b h
  cases a <;> cases b <;> first | exact absurd rfl h | decide +kernel
def tyD : D → Option Ty
  | .non => some .non | .bl _ => some .bl | .int _ => some .int | .str _ => some .str | .lst _ => some .lst | .tup _ => some .tup | .dic _ _ => some .dic | .raw _ => none
theorem tyX {d : D} {x : V} {t : Ty} (fh : Sub F H) (r : PkR K F H d x) (e : tyD d = some t) : TyX K H x (.type t.name) := by
  cases d with
  | non => cases e; have r : x = .non := r; subst r; exact .base .non
  | bl _ => cases e; have r : x = .bl _ := r; subst r; exact .base (.bl _)
  | int _ => cases e; have r : x = .int _ := r; subst r; exact .base (.int _)
  | str _ => cases e; have r : x = .str _ := r; subst r; exact .base (.str _)
  | lst _ =>
    cases e
    obtain ⟨a, vs, rfl, h1, _⟩ := r
    rcases h1 with h1 | ⟨o, h1⟩
    · exact .base (.lst h1)
    · exact .base (.frz h1)
  | tup _ =>
    cases e
    obtain ⟨a, vs, rfl, h1, _⟩ := pkTup r
    rcases h1 with (h1 | ⟨o, h1⟩) | ⟨o, its, n, h1, h2, _⟩
    · exact .base (.tup (fh _ _ h1))
    · exact .fTuple (fh _ _ h1)
    · exact .kTuple h1 h2
  | dic _ _ =>
    cases e
    obtain ⟨a, vs, rfl, h1, _⟩ := r
    exact .base (.dK h1)
  | raw _ => cases e
def isiD (t : Ty) : List D → Option Slot
  | [d, .raw (.ty n)] => if n = t.name then (tyD d).map fun a => (false, .bl (a.sub t)) else none
  | _ => none
theorem ok_isi {t : Ty} (ht : t ≠ .non) : CallOk K (isiD t) (rIsi K) := by
  intro F H ds xs s Q fh r e k
  unfold isiD at e
  split at e
  · rename_i d n
    split at e
    · rename_i hn
      subst hn
      cases q : tyD d with
      | none => rw [q] at e; cases e
      | some a =>
        rw [q] at e
        cases e
        obtain ⟨x, y, rfl, r1, r2⟩ := r.two
        have r2 : y = .ty t.name := r2
        subst r2
        exact ⟨x, _, _, _, a.sub t, rfl, .ty _, tyX fh r1 q, kit_ty (Ty.kit a t ht), vnB fh k⟩
    · cases e
  · cases e
/-- isinstance(x, T) -/
def isi (t : Ty) (A : M D) : M Slot := A.bind fun d => M.lift ((tyD d).map fun a => (false, .bl (a.sub t)))
end
section
variable {X : Cx} {c : Ct} {a : Expr} {pos : Pos}
theorem p_ty (t : Ty) {p2 : Pos} (hg2 : Gl X (Str.ofString t.name)) (hm2 : X.mg (Str.ofString t.name) = none) (hv2 : bootBuiltins (Str.ofString t.name) = some (.type t.name))
    (hn2 : Str.ofString t.name ≠ "__name__" := by decide) (hd2 : (Str.ofString t.name == ("__debug__" : Str)) = false := by decide) :
    PE X (.Name (Str.ofString t.name) p2) (tP c (pk (cst (.raw (.ty t.name))))) := p_of (e_cst (pe_bltn (v := .ty t.name) hg2 hm2 hv2 rfl hn2 hd2) fun _ => rfl)
theorem e_isi {t : Ty} {A : M D} {e : Expr} (h : PE X e (tE c (blt (isiD t) (acons A (acons (pk (cst (.raw (.ty t.name)))) anil))))) : PE X e (tE c (isi t A)) := by
  refine h.imp fun σ H Q ⟨F, ρ, S, k⟩ => ⟨F, ρ, S, ?_⟩
  unfold blt isi acons pk cst ret anil M.bind M.lift at *
  cases q : A ρ with
  | ok d ρ1 =>
    rw [q] at k
    dsimp only at k ⊢
    unfold isiD
    simp only [if_true]
    exact k
  | exc x ρ1 => rw [q] at k; exact k
  | bad => rw [q] at k; exact k
end
end PM
namespace PM
open PySem L2 PyProof.Rows
variable {pp : Pin}

/-! ### arguments of an own def: values, or owned lists of this frame, lent -/
def AR (K : Fr) (F H : Hp) (σ : L2.St) (bs : List Nat) (d : D) (v : V) : Prop := Rep K F d v ∨ ∃ i ∈ bs, σ[i]? = some (some v) ∧ ∃ a, v = .ref a ∧ At K F H d a
def ARs (K : Fr) (F H : Hp) (σ : L2.St) (bs : List Nat) : List D → List V → Prop
  | [], vs => vs = []
  | d :: ds, vs => ∃ v r, vs = v :: r ∧ AR K F H σ bs d v ∧ ARs K F H σ bs ds r
theorem AR.mono {K : Fr} {F H F' H' : Hp} {σ : L2.St} {bs bs' : List Nat} {d : D} {v : V} (h : AR K F H σ bs d v) (f : Sub F F') (g : Sub H H') (b : ∀ i ∈ bs, i ∈ bs') : AR K F' H' σ bs' d v := by
  rcases h with h | ⟨i, hi, e, a, ea, k⟩
  · exact .inl (Rep.mono f _ _ h)
  · exact .inr ⟨i, b i hi, e, a, ea, k.mono f fun o e => g a o e⟩
theorem ARs.mono {K : Fr} {F H F' H' : Hp} {σ : L2.St} {bs bs' : List Nat} (f : Sub F F') (g : Sub H H') (b : ∀ i ∈ bs, i ∈ bs') : ∀ {ds : List D} {vs : List V}, ARs K F H σ bs ds vs → ARs K F' H' σ bs' ds vs
  | [], _, h => h
  | d :: ds, _, ⟨v, r, e, k, h⟩ => ⟨v, r, e, k.mono f g b, ARs.mono f g b h⟩
theorem ARs.length {K : Fr} {F H : Hp} {σ : L2.St} {bs : List Nat} : ∀ {ds : List D} {vs : List V}, ARs K F H σ bs ds vs → ds.length = vs.length
  | [], vs, h => by have h : vs = [] := h; subst h; rfl
  | d :: ds, _, ⟨v, r, e, k, h⟩ => by subst e; rw [List.length_cons, List.length_cons, ARs.length h]
abbrev AM := M (List D × List Nat)
def rA (c : Ct) : Hp → Hp → L2.St → Env → List D × List Nat → List V → Prop := fun F H σ _ r vs => ARs c.K F H σ r.2 r.1 vs
abbrev tA (c : Ct) (A : AM) : TA := tG c (rA c) A
def cnil : AM := fun ρ => .ok ([], []) ρ
def cval (A : M D) (R : AM) : AM := A.bind fun d => R.bind fun r ρ => .ok (d :: r.1, r.2) ρ
def cvw (i : Nat) (R : AM) : AM := fun ρ => match ρ[i]? with
  | some (some (false, d)) => (R.bind fun r ρ => .ok (d :: r.1, r.2) ρ) ρ
  | some (some (true, d)) => (R.bind fun r ρ => .ok (d :: r.1, i :: r.2) ρ) ρ
  | _ => .bad
section
variable {X : Cx} {c : Ct} {e : Expr} {es : List Expr} {pos : Pos}
theorem c_nil : PA X [] (tA c cnil) := pa_nil.imp fun σ H Q ⟨F, ρ, S, k⟩ => k [] F H S (Sub.refl _) (Sub.refl _) rfl
theorem c_val {A : M D} {R : AM} (h : PE X e (tF c A)) (t : PA X es (tA c R)) (hs : starEach (e :: es) X.env = (false, eval e X.env) :: starEach es X.env := by rfl) : PA X (e :: es) (tA c (cval A R)) := by
  refine (pa_cons h t hs).imp fun σ H Q ⟨F, ρ, S, k⟩ => ⟨F, ρ, S, k.step fun d ρ1 x F1 H1 S1 r1 f1 h1 a1 => ⟨F1, ρ1, S1, a1.step fun r ρ2 xs F2 H2 S2 r2 f2 h2 a2 => ?_⟩⟩
  exact a2 (x :: xs) F2 H2 S2 (Sub.refl _) (Sub.refl _) ⟨x, xs, rfl, .inl (Rep.mono f2 _ _ r1), r2⟩
theorem c_vw {i : Nat} {x : Str} {R : AM} (h : PE X (.Name x pos) (tVar i)) (t : PA X es (tA c R)) (hs : starEach (.Name x pos :: es) X.env = (false, eval (.Name x pos) X.env) :: starEach es X.env := by rfl) : PA X (.Name x pos :: es) (tA c (cvw i R)) := by
  refine (pa_cons h t hs).imp fun σ H Q ⟨F, ρ, S, k⟩ => ?_
  unfold cvw at k
  split at k
  · rename_i d e
    obtain ⟨v, h1, h2⟩ := S.sl i _ e
    refine ⟨v, h1, F, ρ, S, k.step fun r ρ2 xs F2 H2 S2 r2 f2 g2 a2 => ?_⟩
    exact a2 (v :: xs) F2 H2 S2 (Sub.refl _) (Sub.refl _) ⟨v, xs, rfl, .inl (Rep.mono f2 _ _ h2), r2⟩
  · rename_i d e
    obtain ⟨v, h1, a, rfl, fa, ba, h2⟩ := S.sl i _ e
    refine ⟨_, h1, F, ρ, S, k.step fun r ρ2 xs F2 H2 S2 r2 f2 g2 a2 => ?_⟩
    exact a2 (.ref a :: xs) F2 H2 S2 (Sub.refl _) (Sub.refl _) ⟨.ref a, xs, rfl, .inr ⟨i, List.mem_cons_self, h1, a, rfl, h2.mono f2 fun o e => g2 a o e⟩, ARs.mono (Sub.refl _) (Sub.refl _) (fun i hi => List.mem_cons_of_mem _ hi) r2⟩
  · exact k.elim
end

/-! ### no list, no dict within -/
mutual
def noL : D → Bool
  | .non => true | .bl _ => true | .int _ => true | .str _ => true
  | .tup ds => noLs ds
  | .lst _ => false | .dic _ _ => false | .raw _ => false
def noLs : List D → Bool
  | [] => true
  | d :: ds => noL d && noLs ds
end
def noLS : Slot → Bool
  | (false, d) => noL d
  | (true, .lst ds) => noLs ds
  | (true, .dic _ ds) => noLs ds
  | (true, _) => true
def owned (ρ : Env) (i : Nat) : Bool := match ρ[i]? with | some (some (true, _)) => true | _ => false
def frzAll (bs : List Nat) (ρ : Env) : Env := ρ.mapIdx fun j s => if j ∈ bs then s.map fun p => (false, p.2) else s
section
variable {K : Fr} {B F0 F H Fc F' H' : Hp} {σ : L2.St} {ρ : Env} {bs : List Nat}
structure Lent (K : Fr) (F H Fc : Hp) (σ : L2.St) (ρ : Env) (bs : List Nat) : Prop where
  f : Sub F Fc
  h : Sub Fc H
  at_ : ∀ i ∈ bs, ∀ a o, σ[i]? = some (some (.ref a)) → H a = some o → Fc a = some o
  back : ∀ a o, Fc a = some o → F a = some o ∨ ∃ i ∈ bs, ∃ d, ρ[i]? = some (some (true, d)) ∧ σ[i]? = some (some (.ref a)) ∧ H a = some o ∧ At K F H d a
open Classical in
theorem lend (S : SR pp K B F0 F H σ ρ) (hb : bs.all (owned ρ) = true) : ∃ Fc, Lent K F H Fc σ ρ bs := by
  have own : ∀ i ∈ bs, ∃ d, ρ[i]? = some (some (true, d)) := fun i hi => by
    have := List.all_eq_true.mp hb i hi
    unfold owned at this
    split at this
    · rename_i d e; exact ⟨d, e⟩
    · cases this
  refine ⟨fun a => match F a with | some o => some o | none => if ∃ i ∈ bs, σ[i]? = some (some (.ref a)) then H a else none, fun a o e => ?_, fun a o e => ?_, fun i hi a o e1 e2 => ?_, fun a o e => ?_⟩
  · (try dsimp only); rw [e]
  · (try dsimp only at e)
    cases q : F a with
    | some u => rw [q] at e; cases e; exact S.fh a _ q
    | none =>
      rw [q] at e
      (try dsimp only at e)
      split at e
      · exact e
      · cases e
  · (try dsimp only)
    cases q : F a with
    | some u =>
      have := S.fh a u q
      rw [e2] at this
      cases this; rfl
    | none =>
      (try dsimp only)
      rw [if_pos ⟨i, hi, e1⟩]; exact e2
  · (try dsimp only at e)
    cases q : F a with
    | some u => rw [q] at e; cases e; exact .inl rfl
    | none =>
      rw [q] at e
      (try dsimp only at e)
      split at e
      · rename_i hx
        obtain ⟨i, hi, e1⟩ := hx
        obtain ⟨d, ed⟩ := own i hi
        obtain ⟨v, e2, a', rfl, _, _, k⟩ := S.sl i _ ed
        rw [e1] at e2; cases e2
        exact .inr ⟨i, hi, d, ed, e1, e, k⟩
      · cases e
theorem Lent.rep (L : Lent K F H Fc σ ρ bs) : ∀ {ds : List D} {vs : List V}, ARs K F H σ bs ds vs → Reps K Fc ds vs
  | [], vs, h => by have h : vs = [] := h; subst h; exact Reps.nil
  | d :: ds, _, ⟨v, r, e, k, h⟩ => by
    subst e
    refine Reps.cons ?_ (L.rep h)
    rcases k with k | ⟨i, hi, e, a, rfl, k⟩
    · exact Rep.mono L.f _ _ k
    · exact k.rep L.f fun o ho => L.at_ i hi a o e ho
/-- what came back holds none of what was lent -/
theorem Lent.keep (L : Lent K F H Fc σ ρ bs) (fh : Sub F H) (g : Grow Fc H F' H') : ∃ Fn, Grow F H Fn H' ∧ (∀ a, F' a = none → Fn a = none) ∧ (∀ a o, Fn a = some o → F' a = some o) ∧ ∀ a o, F' a = some o → (∀ vs, o ≠ .lst vs) → (∀ kvs, o ≠ .dK kvs) → Fn a = some o := by
  have back : ∀ a o, (match F a with | some o => some o | none => if (Fc a).isNone then F' a else none) = some o → F' a = some o := fun a o e => by
    cases q : F a with
    | some u => rw [q] at e; cases e; exact g.f a _ (L.f a _ q)
    | none =>
      rw [q] at e
      (try dsimp only at e)
      split at e
      · exact e
      · cases e
  refine ⟨fun a => match F a with | some o => some o | none => if (Fc a).isNone then F' a else none, ⟨fun a o e => ?_, g.h, fun a o e => ?_, fun a o e => ?_⟩, fun a e => ?_, back, fun a o e n1 n2 => ?_⟩
  · (try dsimp only); rw [e]
  · exact g.fh a o (back a o e)
  · (try dsimp only at e)
    cases q : F a with
    | some u => rw [q] at e; cases e; exact .inl rfl
    | none =>
      rw [q] at e
      (try dsimp only at e)
      split at e
      · rename_i hn
        rcases g.new a o e with z | z
        · rw [z] at hn; cases hn
        · exact .inr z
      · cases e
  · (try dsimp only)
    cases q : F a with
    | some u => rw [g.f a _ (L.f a _ q)] at e; cases e
    | none =>
      (try dsimp only)
      split
      · exact e
      · rfl
  · (try dsimp only)
    cases q : F a with
    | some u =>
      have := g.f a _ (L.f a _ q)
      rw [e] at this; cases this; rfl
    | none =>
      (try dsimp only)
      cases q2 : Fc a with
      | none => exact e
      | some u =>
        rcases L.back a u q2 with z | ⟨i, hi, d, _, _, hu, k⟩
        · rw [q] at z; cases z
        · have hF := g.f a u q2
          rw [e] at hF; cases hF
          cases d with
          | lst ds =>
            obtain ⟨vs, h1, _⟩ := k
            rw [hu] at h1; cases h1
            exact absurd rfl (n1 vs)
          | dic ks ds =>
            obtain ⟨vs, h1, _⟩ := k
            rw [hu] at h1; cases h1
            exact absurd rfl (n2 _)
          | _ => exact k.elim
mutual
theorem Rep.thin {K : Fr} {F' Fn : Hp} (h : ∀ a o, F' a = some o → (∀ vs, o ≠ .lst vs) → (∀ kvs, o ≠ .dK kvs) → Fn a = some o) : ∀ (d : D) (v : V), noL d = true → Rep K F' d v → Rep K Fn d v
  | .non, _, _, k => k
  | .bl _, _, _, k => k
  | .int _, _, _, k => k
  | .str _, _, _, k => k
  | .tup ds, v, n, k => by
    unfold Rep at k ⊢
    obtain ⟨a, vs, e, s, r⟩ := k
    refine ⟨a, vs, e, ?_, Reps.thin h ds vs (by unfold noL at n; exact n) r⟩
    rcases s with (s | ⟨o, s⟩) | s
    · exact .inl (.inl (h a _ s (fun _ z => by cases z) fun _ z => by cases z))
    · exact .inl (.inr ⟨o, h a _ s (fun _ z => by cases z) fun _ z => by cases z⟩)
    · exact .inr s
  | .lst _, _, n, _ => by unfold noL at n; cases n
  | .dic _ _, _, n, _ => by unfold noL at n; cases n
  | .raw _, _, n, _ => by unfold noL at n; cases n
theorem Reps.thin {K : Fr} {F' Fn : Hp} (h : ∀ a o, F' a = some o → (∀ vs, o ≠ .lst vs) → (∀ kvs, o ≠ .dK kvs) → Fn a = some o) : ∀ (ds : List D) (vs : List V), noLs ds = true → Reps K F' ds vs → Reps K Fn ds vs
  | [], vs, _, k => by rw [k.inv0]; exact Reps.nil
  | d :: ds, vs, n, k => by
    obtain ⟨v, r, rfl, k1, k2⟩ := k.inv
    unfold noLs at n
    have n := Bool.and_eq_true_iff.mp n
    exact Reps.cons (Rep.thin h d v n.1 k1) (Reps.thin h ds r n.2 k2)
end
theorem frz_get {j : Nat} : (frzAll bs ρ)[j]? = (ρ[j]?).map fun s => if j ∈ bs then s.map fun p => (false, p.2) else s := by
  unfold frzAll
  rw [List.getElem?_mapIdx]
/-- what came back may hold what was lent: it is frozen -/
theorem SR.frzAll (S : SR pp K B F0 F H σ ρ) (L : Lent K F H Fc σ ρ bs) (g : Grow Fc H F' H') : SR pp K B F0 F' H' σ (PM.frzAll bs ρ) where
  bh := S.bh.trans g.h
  fh := g.fh
  f0 := S.f0.trans (L.f.trans g.f)
  new := fun a o e => by
    rcases g.new a o e with z | z
    · rcases L.back a o z with z | ⟨i, hi, d, e1, e2, _, _⟩
      · exact S.new a o z
      · obtain ⟨v, e3, p, rfl, _, bp, _⟩ := S.sl i _ e1
        rw [e2] at e3; cases e3
        exact .inr bp
    · exact .inr (S.bh.none z)
  len := by unfold PM.frzAll; rw [List.length_mapIdx]; exact S.len
  sl := fun j s e => by
    rw [frz_get] at e
    cases q : ρ[j]? with
    | none => rw [q] at e; cases e
    | some s0 =>
      rw [q] at e
      have e : (if j ∈ bs then s0.map fun p => (false, p.2) else s0) = some s := Option.some.inj e
      cases s0 with
      | none =>
        split at e <;> cases e
      | some s0 =>
        obtain ⟨v, h1, h2⟩ := S.sl j _ q
        refine ⟨v, h1, ?_⟩
        by_cases hj : j ∈ bs
        · rw [if_pos hj] at e
          have e : (false, s0.2) = s := Option.some.inj e
          subst e
          obtain ⟨o, d⟩ := s0
          cases o with
          | false => exact Rep.mono (L.f.trans g.f) d v h2
          | true =>
            obtain ⟨a, rfl, _, _, k⟩ := h2
            exact k.rep (L.f.trans g.f) fun o ho => g.f a o (L.at_ j hj a o h1 ho)
        · rw [if_neg hj] at e
          have e := Option.some.inj e
          subst e
          obtain ⟨o, d⟩ := s0
          cases o with
          | false => exact Rep.mono (L.f.trans g.f) d v h2
          | true =>
            obtain ⟨a, rfl, fa, ba, k⟩ := h2
            refine ⟨a, rfl, ?_, ba, k.mono (L.f.trans g.f) fun o ho => g.h a o ho⟩
            cases q2 : F' a with
            | none => rfl
            | some u =>
              obtain ⟨o, ho⟩ := k.there
              rcases g.new a u q2 with z | z
              · rcases L.back a u z with z | ⟨i, hi, d', e1, e2, _, _⟩
                · rw [fa] at z; cases z
                · have := S.sep i j a d' d e1 q e2 h1
                  subst this
                  exact absurd hi hj
              · rw [ho] at z; cases z
  sep := fun i j p di dj e1 e2 e3 e4 => by
    have get : ∀ {j : Nat} {d : D}, (PM.frzAll bs ρ)[j]? = some (some (true, d)) → ρ[j]? = some (some (true, d)) := fun {j d} e => by
      rw [frz_get] at e
      cases q : ρ[j]? with
      | none => rw [q] at e; cases e
      | some s0 =>
        rw [q] at e
        have e : (if j ∈ bs then s0.map fun p => (false, p.2) else s0) = some (true, d) := Option.some.inj e
        by_cases hj : j ∈ bs
        · rw [if_pos hj] at e
          cases s0 with
          | none => cases e
          | some s0 => cases e
        · rw [if_neg hj] at e; rw [e]
    exact S.sep i j p di dj (get e1) (get e2) e3 e4
  pk := S.pk
end

/-! ### the promise of a def by its function -/
def spF (K : Fr) (mg : Str → Option Value) (f : FM) (n : Nat) : Sp := fun vs H Q E => vs.length = n ∧ ∃ F ds, Sub F H ∧ Reps K F ds vs ∧ match f ds with
  | .ok s => ∀ v F' H', Grow F H F' H' → VN K H F' H' s v → Q v H'
  | .exc e => ∀ F' H' cls d, Grow F H F' H' → XR K mg F' H' e cls d → E cls d H'
  | .bad => False
def callE (f : FM) (R : AM) : M Slot := R.bind fun r ρ => if r.2.all (owned ρ) then (match f r.1 with
    | .ok s => if r.2.isEmpty || noLS s then .ok s ρ else .ok s (frzAll r.2 ρ)
    | .exc e => if r.2.isEmpty || noLs (e.fs.map (·.2)) then .exc e ρ else .exc e (frzAll r.2 ρ)
    | .bad => .bad) else .bad
section
variable {X : Cx} {c : Ct} {e : Expr} {es : List Expr} {pos p : Pos} {k n : Nat} {fa : Addr} {fd : FuncData} {ps : List Str} {f : FM} {R : AM} {x : Str}
theorem Lent.nil {K : Fr} {F H Fc : Hp} {σ : L2.St} {ρ : Env} (L : Lent K F H Fc σ ρ []) {F' H' : Hp} (g : Grow Fc H F' H') : Grow F H F' H' := ⟨L.f.trans g.f, g.h, g.fh, fun a o e => by
  rcases g.new a o e with z | z
  · rcases L.back a o z with z | ⟨i, hi, _⟩
    · exact .inl z
    · cases hi
  · exact .inr z⟩
theorem call_tr (hK : c.K = X.K) (hM : c.mg = X.mg) (hn : ∀ ds, f ds ≠ .bad → ds.length = n) {σ : L2.St} {H : Hp} {Q : VK} (h : tE c (callE f R) σ H Q) : tCallSD (spF X.K X.mg f n) [] (fun σ cls d H => c.W cls d σ H) (tA c R) σ H Q := by
  obtain ⟨F, ρ, S, k⟩ := h
  refine ⟨F, ρ, S, k.step fun r ρ1 vs F1 H1 S1 r1 f1 h1 a1 => ?_⟩
  obtain ⟨ds, bs⟩ := r
  dsimp only at a1
  rw [List.append_nil]
  by_cases hb : bs.all (owned ρ1) = true
  · rw [if_pos hb] at a1
    obtain ⟨Fc, L⟩ := lend S1 hb
    have r1 : ARs c.K F1 H1 σ bs ds vs := r1
    have rep : Reps c.K Fc ds vs := L.rep r1
    have nb : f ds ≠ .bad := fun z => by rw [z] at a1; exact a1
    refine ⟨by rw [← rep.length]; exact hn ds nb, Fc, ds, L.h, hK ▸ rep, ?_⟩
    cases q : f ds with
    | bad => exact absurd q nb
    | ok s =>
      rw [q] at a1
      dsimp only at a1 ⊢
      intro v F' H' g vn
      rw [← hK] at vn
      by_cases he : (bs.isEmpty || noLS s) = true
      · rw [if_pos he] at a1
        cases bs with
        | nil => exact a1 v F' H' (S1.grow (L.nil g)) (L.nil g).f g.h (vn.vr S1)
        | cons b0 br =>
          have hno : noLS s = true := by simpa using he
          obtain ⟨Fn, gn, hnone, hsome, thin⟩ := L.keep S1.fh g
          refine a1 v Fn H' (S1.grow gn) gn.f gn.h (VN.vr (c := c) (H := H1) ?_ S1)
          obtain ⟨o, d⟩ := s
          cases o with
          | false => exact Rep.thin thin d v hno vn
          | true =>
            obtain ⟨a, rfl, ha, fa, kk⟩ := vn
            refine ⟨a, rfl, ha, hnone a fa, ?_⟩
            cases d with
            | lst ds' =>
              obtain ⟨vs', e1, e2⟩ := kk
              exact ⟨vs', e1, Reps.thin thin _ _ hno e2⟩
            | dic ks ds' =>
              obtain ⟨vs', e1, e2, e3⟩ := kk
              exact ⟨vs', e1, e2, Reps.thin thin _ _ hno e3⟩
            | _ => exact kk.elim
      · rw [if_neg he] at a1
        refine a1 v F' H' (S1.frzAll L g) (L.f.trans g.f) g.h ?_
        obtain ⟨o, d⟩ := s
        cases o with
        | false => exact ⟨vn, fun z => by cases z⟩
        | true =>
          obtain ⟨a, rfl, ha, fa, kk⟩ := vn
          refine ⟨⟨a, rfl, fa, S1.bh.none ha, kk⟩, fun _ i d' e1 e2 => ?_⟩
          obtain ⟨v', h1, b, rfl, _, _, k'⟩ := (S1.frzAll L g).sl i _ e1
          rw [e2] at h1; cases h1
          rw [frz_get] at e1
          cases q2 : ρ1[i]? with
          | none => rw [q2] at e1; cases e1
          | some s0 =>
            cases s0 with
            | none => rw [q2] at e1; simp only [Option.map_some, Option.map_none, ite_self] at e1; cases e1
            | some s0 =>
              rw [q2] at e1
              obtain ⟨v0, h0, k0⟩ := S1.sl i _ q2
              rw [e2] at h0; cases h0
              obtain ⟨o0, d0⟩ := s0
              cases o0 with
              | false =>
                have e1 := Option.some.inj e1
                split at e1 <;> cases e1
              | true =>
                obtain ⟨a', ea, _, _, k0⟩ := k0
                cases ea
                obtain ⟨o, ho⟩ := k0.there
                rw [ha] at ho; cases ho
    | exc x =>
      rw [q] at a1
      dsimp only at a1 ⊢
      intro F' H' cls d g xr
      rw [← hK, ← hM] at xr
      by_cases he : (bs.isEmpty || noLs (x.fs.map (·.2))) = true
      · rw [if_pos he] at a1
        cases bs with
        | nil => exact a1 F' H' cls d (S1.grow (L.nil g)) xr
        | cons b0 br =>
          have hno : noLs (x.fs.map (·.2)) = true := by simpa using he
          obtain ⟨Fn, gn, hnone, hsome, thin⟩ := L.keep S1.fh g
          refine a1 Fn H' cls d (S1.grow gn) ⟨xr.1, ?_⟩
          rcases xr.2 with z | ⟨dx, vs', e1, e2, e3⟩
          · exact .inl z
          · exact .inr ⟨dx, vs', e1, thin dx _ e2 (fun _ z => by cases z) (fun _ z => by cases z), Reps.thin thin _ _ hno e3⟩
      · rw [if_neg he] at a1
        exact a1 F' H' cls d (S1.frzAll L g) xr
  · rw [if_neg hb] at a1
    exact a1.elim
theorem e_call (G : FnOk X.prog X.w X.K X.mg X.base (CX X.prog X.w) k fa fd ps (spF X.K X.mg f n)) (hr : Room k X.A) (hK : c.K = X.K) (hM : c.mg = X.mg) (tk : Takes X c.W) (hn : ∀ ds, f ds ≠ .bad → ds.length = n) (hg : Gl X x) (hm : X.mg x = some (.ref fa)) (hkp : PySem.W.keepIn X.K (.ref fa) = true) (hb : Binds X.K fd ps [])
    (ha : PA X (e :: es) (tA c R)) (hdb : (x == ("__debug__" : Str)) = false := by decide) (he : starEach (e :: es) X.env = (false, eval e X.env) :: starEach es X.env := by rfl) (hpl : (backTo pos (starEach es X.env)).any (·.1) = false := by rfl) :
    PE X (.Call (.Name x p) (e :: es) [] pos) (tE c (callE f R)) :=
  (pe_callSD G hr hg hm hkp hb .nil (fun σ => passAt tk σ) ha hdb he hpl).imp fun _ _ _ h => call_tr hK hM hn h
end
end PM
namespace PM
open PySem L2 PyProof.Rows
variable {pp : Pin}

/-! ### stores into slots -/
section
variable {K : Fr} {B F0 F H F' H' : Hp} {σ : L2.St} {ρ : Env}
theorem get_set {α : Type} {l : List α} {i j : Nat} {x y : α} (e : (l.set i x)[j]? = some y) : (j = i ∧ y = x) ∨ (j ≠ i ∧ l[j]? = some y) := by
  by_cases h : j = i
  · subst h
    rw [List.getElem?_set] at e
    simp only [if_true] at e
    split at e
    · cases e; exact .inl ⟨rfl, rfl⟩
    · cases e
  · rw [List.getElem?_set_ne (Ne.symm h)] at e
    exact .inr ⟨h, e⟩
theorem SR.lt (S : SR pp K B F0 F H σ ρ) {i : Nat} (h : i < ρ.length) : i < σ.length := by rw [S.len]; exact h
/-- a value goes to a slot -/
theorem SR.set (S : SR pp K B F0 F H σ ρ) (i : Nat) {s : Slot} {v : V} (r : SlR K B F H s v) (n : s.1 = true → ∀ (j : Nat) (d : D), ρ[j]? = some (some (true, d)) → σ[j]? ≠ some (some v)) (fr : Pin.free pp i) : SR pp K B F0 F H (σ.set i (some v)) (ρ.set i (some s)) where
  pk := S.pk.set fr
  bh := S.bh
  fh := S.fh
  f0 := S.f0
  new := S.new
  len := by simpa using S.len
  sl := fun j t e => by
    rcases get_set e with ⟨rfl, h⟩ | ⟨h, e⟩
    · cases h
      have hj : j < ρ.length := by
        have := (List.getElem?_eq_some_iff.mp e).1
        simpa using this
      exact ⟨v, by rw [List.getElem?_set_self (S.lt hj)], r⟩
    · obtain ⟨u, h1, h2⟩ := S.sl j t e
      exact ⟨u, by rw [List.getElem?_set_ne (Ne.symm h)]; exact h1, h2⟩
  sep := fun a b p da db e1 e2 e3 e4 => by
    rcases get_set e1 with ⟨h1, q1⟩ | ⟨h1, f1⟩
    · rcases get_set e2 with ⟨h2, q2⟩ | ⟨h2, f2⟩
      · rw [h1, h2]
      · rcases get_set e3 with ⟨_, q3⟩ | ⟨z, _⟩
        · rw [List.getElem?_set_ne (Ne.symm h2)] at e4
          cases q1
          cases q3
          exact absurd e4 (n rfl b db f2)
        · exact absurd h1 z
    · rw [List.getElem?_set_ne (Ne.symm h1)] at e3
      rcases get_set e2 with ⟨h2, q2⟩ | ⟨h2, f2⟩
      · rcases get_set e4 with ⟨_, q4⟩ | ⟨z, _⟩
        · cases q2
          cases q4
          exact absurd e3 (n rfl a da f1)
        · exact absurd h2 z
      · rw [List.getElem?_set_ne (Ne.symm h2)] at e4
        exact S.sep a b p da db f1 f2 e3 e4
theorem SR.setF (S : SR pp K B F0 F H σ ρ) (i : Nat) {d : D} {v : V} (r : Rep K F d v) (fr : Pin.free pp i) : SR pp K B F0 F H (σ.set i (some v)) (ρ.set i (some (false, d))) := S.set i (s := (false, d)) r (fun z => by cases z) fr
/-- a slot forgotten -/
theorem SR.forget (S : SR pp K B F0 F H σ ρ) (i : Nat) {o : Option V} (fr : Pin.free pp i) : SR pp K B F0 F H (σ.set i o) (ρ.set i none) where
  pk := S.pk.set fr
  bh := S.bh
  fh := S.fh
  f0 := S.f0
  new := S.new
  len := by simpa using S.len
  sl := fun j t e => by
    rcases get_set e with ⟨rfl, h⟩ | ⟨h, e⟩
    · cases h
    · obtain ⟨u, h1, h2⟩ := S.sl j t e
      exact ⟨u, by rw [List.getElem?_set_ne (Ne.symm h)]; exact h1, h2⟩
  sep := fun a b p da db e1 e2 e3 e4 => by
    rcases get_set e1 with ⟨h1, q1⟩ | ⟨h1, e1⟩
    · cases q1
    · rcases get_set e2 with ⟨h2, q2⟩ | ⟨h2, e2⟩
      · cases q2
      · rw [List.getElem?_set_ne (Ne.symm h1)] at e3
        rw [List.getElem?_set_ne (Ne.symm h2)] at e4
        exact S.sep a b p da db e1 e2 e3 e4
/-- an owned list or dict is changed -/
theorem SR.upd (S : SR pp K B F0 F H σ ρ) {j : Nat} {d d' : D} {a : Addr} {o : HO} (e : ρ[j]? = some (some (true, d))) (ev : σ[j]? = some (some (.ref a))) (k : At K F (L2.upd H a o) d' a) : SR pp K B F0 F (L2.upd H a o) σ (ρ.set j (some (true, d'))) := by
  obtain ⟨v, e', b, rfl, fa, ba, k0⟩ := S.sl j _ e
  rw [ev] at e'; cases e'
  obtain ⟨o0, ho⟩ := k0.there
  have hj : j < ρ.length := (List.getElem?_eq_some_iff.mp e).1
  have upd_other : ∀ {p : Addr} {u : HO}, p ≠ a → H p = some u → L2.upd H a o p = some u := fun {p u} hp e => by rw [upd_ne hp]; exact e
  refine ⟨fun b u q => upd_other (ne_of_none q ba) (S.bh b u q), fun b u q => upd_other (ne_of_none q fa) (S.fh b u q), S.f0, S.new, by simpa using S.len, fun i t q => ?_, fun x y p dx dy q1 q2 q3 q4 => ?_, S.pk⟩
  · rcases get_set q with ⟨rfl, h⟩ | ⟨h, q⟩
    · cases h
      exact ⟨_, ev, a, rfl, fa, ba, k⟩
    · obtain ⟨u, h1, h2⟩ := S.sl i t q
      refine ⟨u, h1, ?_⟩
      obtain ⟨ow, di⟩ := t
      cases ow with
      | false => exact h2
      | true =>
        obtain ⟨p, rfl, fp, bp, kp⟩ := h2
        have np : p ≠ a := fun z => by
          subst z
          exact h (S.sep i j p di d q e h1 ev)
        exact ⟨p, rfl, fp, bp, kp.mono (Sub.refl _) fun u hu => upd_other np hu⟩
  · have old : ∀ {x : Nat} {dx : D}, (ρ.set j (some (true, d')))[x]? = some (some (true, dx)) → ∃ dx', ρ[x]? = some (some (true, dx')) := fun {x dx} q => by
      rcases get_set q with ⟨rfl, h⟩ | ⟨h, q⟩
      · exact ⟨_, e⟩
      · exact ⟨_, q⟩
    obtain ⟨dx', q1⟩ := old q1
    obtain ⟨dy', q2⟩ := old q2
    exact S.sep x y p dx' dy' q1 q2 q3 q4
end

/-! ### targets -/
abbrev Tg := D → Env → Option Env
structure TgOk (K : Fr) (g : TG) (T : Tg) (js : List Nat) : Prop where
  run : ∀ (pp : Pin) (B F0 F H : Hp) (σ : L2.St) (ρ : Env) (d : D) (v : V) (ρ' : Env) (Q : L2.St → Hp → Prop), (∀ j ∈ js, Pin.free pp j) → SR pp K B F0 F H σ ρ → Rep K F d v → T d ρ = some ρ' →
    (∀ σ', SR pp K B F0 F H σ' ρ' → σ'.length = σ.length → (∀ j, j ∉ js → σ'[j]? = σ[j]? ∧ ρ'[j]? = ρ[j]?) → Q σ' H) → g v σ H Q
def tgN (i : Nat) : Tg := fun d ρ => some (ρ.set i (some (false, d)))
theorem g_name {K : Fr} {i : Nat} : TgOk K (gName i) (tgN i) [i] := ⟨fun pp B F0 F H σ ρ d v ρ' Q fr S r e k => by
  cases e
  refine k _ (S.setF i r (fr i List.mem_cons_self)) (by simp) fun j hj => ?_
  have hj : j ≠ i := by simpa using hj
  exact ⟨List.getElem?_set_ne (Ne.symm hj), List.getElem?_set_ne (Ne.symm hj)⟩⟩
def tgs : List Tg → List D → Env → Option Env
  | [], [], ρ => some ρ
  | t :: ts, d :: ds, ρ => (t d ρ).bind (tgs ts ds)
  | _, _, _ => none
structure TgsOk (K : Fr) (n : Nat) (g : TGs) (T : List Tg) (js : List Nat) : Prop where
  run : ∀ (pp : Pin) (B F0 F H : Hp) (σ : L2.St) (ρ : Env) (ds : List D) (vs : List V) (ρ' : Env) (Q : L2.St → Hp → Prop), (∀ j ∈ js, Pin.free pp j) → SR pp K B F0 F H σ ρ → Reps K F ds vs → tgs T ds ρ = some ρ' →
    (∀ σ', SR pp K B F0 F H σ' ρ' → σ'.length = σ.length → (∀ j, j ∉ js → σ'[j]? = σ[j]? ∧ ρ'[j]? = ρ[j]?) → Q σ' H) → g vs σ H Q
  len : T.length = n
theorem g_nil {K : Fr} : TgsOk K 0 gNil [] [] := ⟨fun pp B F0 F H σ ρ ds vs ρ' Q fr S r e k => (by
  cases ds with
  | nil => cases e; exact ⟨r.inv0, k σ S rfl fun _ _ => ⟨rfl, rfl⟩⟩
  | cons _ _ => cases e), rfl⟩
theorem g_cons {K : Fr} {n : Nat} {g : TG} {gs : TGs} {T : Tg} {Ts : List Tg} {js ks : List Nat} (h : TgOk K g T js) (t : TgsOk K n gs Ts ks) : TgsOk K (n + 1) (gCons g gs) (T :: Ts) (js ++ ks) := ⟨fun pp B F0 F H σ ρ ds vs ρ' Q fr S r e k => (by
  cases ds with
  | nil => cases e
  | cons d ds =>
    obtain ⟨v, rs, rfl, r1, r2⟩ := r.inv
    unfold tgs at e
    cases q : T d ρ with
    | none => rw [q] at e; cases e
    | some ρ1 =>
      rw [q] at e
      refine ⟨v, rs, rfl, h.run pp B F0 F H σ ρ d v ρ1 _ (fun j hj => fr j (List.mem_append_left _ hj)) S r1 q fun σ1 S1 l1 k1 => t.run pp B F0 F H σ1 ρ1 ds rs ρ' _ (fun j hj => fr j (List.mem_append_right _ hj)) S1 r2 e fun σ2 S2 l2 k2 => k σ2 S2 (l2.trans l1) fun j hj => ?_⟩
      have h1 : j ∉ js := fun z => hj (List.mem_append_left _ z)
      have h2 : j ∉ ks := fun z => hj (List.mem_append_right _ z)
      exact ⟨(k2 j h2).1.trans (k1 j h1).1, (k2 j h2).2.trans (k1 j h1).2⟩), by rw [List.length_cons, t.len]⟩
def tgT (ts : List Tg) : Tg := fun d ρ => match d with | .tup ds => tgs ts ds ρ | _ => none
theorem tgs_len : ∀ {T : List Tg} {ds : List D} {ρ ρ' : Env}, tgs T ds ρ = some ρ' → ds.length = T.length
  | [], [], _, _, _ => rfl
  | [], _ :: _, _, _, e => by cases e
  | _ :: _, [], _, _, e => by cases e
  | t :: ts, d :: ds, ρ, ρ', e => by
    unfold tgs at e
    cases q : t d ρ with
    | none => rw [q] at e; cases e
    | some ρ1 =>
      rw [q] at e
      rw [List.length_cons, List.length_cons, tgs_len e]
theorem g_tup {K : Fr} {n : Nat} {g : TGs} {T : List Tg} {js : List Nat} (h : TgsOk K n g T js) : TgOk K (gTup K n g) (tgT T) js := ⟨fun pp B F0 F H σ ρ d v ρ' Q fr S r e k => by
  cases d with
  | tup ds =>
    unfold Rep at r
    obtain ⟨a, vs, rfl, s, r⟩ := r
    exact ⟨a, vs, rfl, S.fh.sqT s, by rw [← r.length, tgs_len e, h.len], h.run pp B F0 F H σ ρ ds vs ρ' Q fr S r e k⟩
  | _ => cases e⟩

/-! ### what is walked -/
structure JOk (K : Fr) (C F1 : Hp) (J : It) (ds : List D) : Prop where
  go : ∀ i H, Sub C H → i < ds.length → J.go i H
  yld : ∀ i F H x H', Sub C H → Sub F1 F → Sub F H → i < ds.length → J.yld i H x H' → ∃ F' d, Grow F H F' H' ∧ ds[i]? = some d ∧ Rep K F' d x
  stop : ∀ i H, Sub C H → ds.length ≤ i → J.stop i H
def rJ (c : Ct) : Hp → Hp → L2.St → Env → List D → It → Prop := fun F H _ _ ds J => JOk c.K H F J ds
def rK (c : Ct) : Hp → Hp → L2.St → Env → List D → It → Prop := fun F _ _ _ ds J => JOk c.K F F J ds
abbrev tJ (c : Ct) (A : M (List D)) : TI := tG c (rJ c) A
abbrev tK (c : Ct) (A : M (List D)) : TI := tG c (rK c) A
theorem _root_.L2.PI.imp {X : Cx} {tg e : Expr} {t t' : TI} (h : PI X tg e t) (k : ∀ σ H Q, t' σ H Q → t σ H Q) : PI X tg e t' := ⟨fun pins s σ H R I hw => h.run pins s σ H R I (k σ H R hw)⟩
section
variable {K : Fr} {C F1 : Hp}
theorem jok_list {a : Addr} {ds : List D} {vs : List V} (hC : Rd C a (.lst vs)) (r : Reps K F1 ds vs) : JOk K C F1 (Itl K a) ds where
  go := fun i H h hi => by
    obtain ⟨v, hv, _⟩ := r.get (List.getElem?_eq_getElem hi)
    exact ⟨vs, v, .inl (h.rd hC), hv⟩
  yld := fun i F H x H' h f fh hi y => by
    obtain ⟨rfl, y⟩ := y
    obtain ⟨d, hd, hr⟩ := r.getV (y vs (.inl (h.rd hC)))
    exact ⟨F, d, Grow.refl fh, hd, Rep.mono f _ _ hr⟩
  stop := fun i H h hi => ⟨vs, .inl (h.rd hC), by rw [← r.length]; exact hi⟩
theorem jok_tup {a : Addr} {ds : List D} {vs : List V} (hC : SqT K C a vs) (r : Reps K F1 ds vs) : JOk K C F1 (Itt K a) ds where
  go := fun i H h hi => by
    obtain ⟨v, hv, _⟩ := r.get (List.getElem?_eq_getElem hi)
    exact ⟨vs, v, h.sqT hC, hv⟩
  yld := fun i F H x H' h f fh hi y => by
    obtain ⟨rfl, y⟩ := y
    obtain ⟨d, hd, hr⟩ := r.getV (y vs (h.sqT hC))
    exact ⟨F, d, Grow.refl fh, hd, Rep.mono f _ _ hr⟩
  stop := fun i H h hi => ⟨vs, h.sqT hC, by rw [← r.length]; exact hi⟩
def signs (s : List Nat) : List D := s.map fun c => .str [c]
theorem jok_str {s : List Nat} : JOk K C F1 (Its (st s)) (signs s) where
  go := fun i H h hi => by
    show i < (st s).cps.size
    simpa [signs, st] using hi
  yld := fun i F H x H' h f fh hi y => by
    obtain ⟨rfl, k, hk, rfl⟩ := y
    have hk' : s[i]? = some k := by simpa [st] using hk
    exact ⟨F, .str [k], Grow.refl fh, by unfold signs; rw [List.getElem?_map, hk']; rfl, rfl⟩
  stop := fun i H h hi => by
    show (st s).cps.size ≤ i
    simpa [signs, st] using hi
def intsR (lo : Int) (n : Nat) : List D := (List.range n).map fun (i : Nat) => D.int (lo + (i : Int))
theorem jok_range {lo : Int} {n : Nat} : JOk K C F1 (Itr lo n) (intsR lo n) where
  go := fun i H h hi => by
    show i < n
    simpa [intsR] using hi
  yld := fun i F H x H' h f fh hi y => by
    obtain ⟨rfl, rfl⟩ := y
    have hi : i < n := by simpa [intsR] using hi
    exact ⟨F, .int (lo + i), Grow.refl fh, by unfold intsR; rw [List.getElem?_map, List.getElem?_range hi]; rfl, rfl⟩
  stop := fun i H h hi => by
    show n ≤ i
    simpa [intsR] using hi
def pairs (k : Nat) : List D → List D
  | [] => []
  | d :: ds => .tup [.int (k : Int), d] :: pairs (k + 1) ds
theorem pairs_get : ∀ {ds : List D} {k i : Nat}, (pairs k ds)[i]? = (ds[i]?).map fun d => .tup [.int ((k + i : Nat) : Int), d]
  | [], k, i => by simp [pairs]
  | d :: ds, k, 0 => by simp [pairs]
  | d :: ds, k, i + 1 => by
    unfold pairs
    rw [List.getElem?_cons_succ, List.getElem?_cons_succ, pairs_get]
    congr 1
    funext d
    have : k + 1 + i = k + (i + 1) := by omega
    rw [this]
theorem pairs_len : ∀ {ds : List D} {k : Nat}, (pairs k ds).length = ds.length
  | [], _ => rfl
  | d :: ds, k => by unfold pairs; rw [List.length_cons, List.length_cons, pairs_len]
theorem jok_enum {a : Addr} {ds : List D} {vs : List V} (hC : Rd C a (.lst vs)) (r : Reps K F1 ds vs) : JOk K C F1 (Ite K a) (pairs 0 ds) where
  go := fun i H h hi => by
    rw [pairs_len] at hi
    obtain ⟨v, hv, _⟩ := r.get (List.getElem?_eq_getElem hi)
    exact ⟨vs, v, .inl (h.rd hC), hv⟩
  yld := fun i F H x H' h f fh hi y => by
    obtain ⟨T, u, rfl, hT, rfl, y⟩ := y
    obtain ⟨d, hd, hr⟩ := r.getV (y vs (.inl (h.rd hC)))
    refine ⟨upd F T (.tup [.int (i : Nat), u]), .tup [.int ((i : Nat) : Int), d], growT fh hT, by rw [pairs_get, hd]; simp, ?_⟩
    unfold Rep
    exact ⟨T, _, rfl, .inl (.inl upd_same), Reps.cons rfl (Reps.cons (Rep.mono (f.trans (Sub.upd (fh.none hT))) _ _ hr) Reps.nil)⟩
  stop := fun i H h hi => ⟨vs, .inl (h.rd hC), by rw [pairs_len] at hi; rw [← r.length]; exact hi⟩
def zips : List D → List D → List D
  | a :: as, b :: bs => .tup [a, b] :: zips as bs
  | _, _ => []
theorem zips_get : ∀ {as bs : List D} {i : Nat} {a b : D}, as[i]? = some a → bs[i]? = some b → (zips as bs)[i]? = some (.tup [a, b])
  | [], bs, i, a, b, h, _ => by simp at h
  | _ :: _, [], i, a, b, _, h => by simp at h
  | x :: as, y :: bs, 0, a, b, h1, h2 => by simp at h1 h2; subst h1; subst h2; rfl
  | x :: as, y :: bs, i + 1, a, b, h1, h2 => by
    unfold zips
    rw [List.getElem?_cons_succ]
    exact zips_get (by simpa using h1) (by simpa using h2)
theorem zips_len : ∀ {as bs : List D}, (zips as bs).length = min as.length bs.length
  | [], bs => by simp [zips]
  | _ :: _, [] => by simp [zips]
  | x :: as, y :: bs => by unfold zips; rw [List.length_cons, List.length_cons, List.length_cons, zips_len]; omega
theorem jok_zip {a b : Addr} {ds es : List D} {vs us : List V} (hC : Rd C a (.lst vs)) (r : Reps K F1 ds vs) (hE : Rd C b (.lst us)) (q : Reps K F1 es us) : JOk K C F1 (Itz K a b) (zips ds es) where
  go := fun i H h hi => by
    rw [zips_len] at hi
    obtain ⟨v, hv, _⟩ := r.get (List.getElem?_eq_getElem (show i < ds.length by omega))
    obtain ⟨u, hu, _⟩ := q.get (List.getElem?_eq_getElem (show i < es.length by omega))
    exact ⟨vs, us, v, u, .inl (h.rd hC), .inl (h.rd hE), hv, hu⟩
  yld := fun i F H x H' h f fh hi y => by
    obtain ⟨T, u, w, rfl, hT, rfl, y1, y2⟩ := y
    obtain ⟨d, hd, hr⟩ := r.getV (y1 vs (.inl (h.rd hC)))
    obtain ⟨e, he, hs⟩ := q.getV (y2 us (.inl (h.rd hE)))
    refine ⟨upd F T (.tup [u, w]), .tup [d, e], growT fh hT, zips_get hd he, ?_⟩
    unfold Rep
    have ff := f.trans (Sub.upd (o := .tup [u, w]) (fh.none hT))
    exact ⟨T, _, rfl, .inl (.inl upd_same), Reps.cons (Rep.mono ff _ _ hr) (Reps.cons (Rep.mono ff _ _ hs) Reps.nil)⟩
  stop := fun i H h hi => ⟨vs, us, .inl (h.rd hC), .inl (h.rd hE), by rw [zips_len] at hi; rw [← r.length, ← q.length]; omega⟩
end
section
variable {X : Cx} {c : Ct} {tg l e : Expr} {es : List Expr} {pos p : Pos}
/-- a list, a tuple or a text that is walked -/
def itemsD : D → Option (List D)
  | .lst ds => some ds
  | .tup ds => some ds
  | .str s => some (signs s)
  | _ => none
def src (A : M D) : M (List D) := A.bind fun d => M.lift (itemsD d)
def iSeq (K : Fr) (tl : TE) : TI := fun σ H R => tl σ H fun x H1 => (∃ a, x = .ref a ∧ (∃ xs, SqL K H1 a xs) ∧ R (Itl K a) H1) ∨ (∃ a, x = .ref a ∧ (∃ xs, SqT K H1 a xs) ∧ R (Itt K a) H1) ∨ (∃ y, x = .str y ∧ R (Its y) H1)
theorem pi_seq {tl : TE} (hl : PE X l tl) : PI X tg l (iSeq X.K tl) := by
  refine ⟨fun pins s σ H R I h => ?_⟩
  refine thn (hl.run pins s σ H _ I h) fun v s1 ⟨x, H1, I1, r1, q1⟩ => ?_
  rcases q1 with ⟨a, e, ⟨xs, hq⟩, q⟩ | ⟨a, e, ⟨xs, hq⟩, q⟩ | ⟨y, e, q⟩
  · subst e
    cases r1
    obtain ⟨its, rv, p, hz⟩ := I1.list hq
    refine wpAny_pyIter_list p.isList ?_
    refine ⟨s1.heap.objs.size, [s1.heap.objs.size], _, _, H1, rfl, I1.kept (t' := s1.toks) fun b o e => Heap.get?_push_of_some _ e, turn_list a _, ⟨_, Heap.get?_push_size _ rfl, rfl, rfl⟩, fun b hb => ?_, q⟩
    have e : b = s1.heap.objs.size := by simpa using hb
    subst e
    exact I1.fpOk (Nat.le_refl _) (I1.hok.fresh (Nat.le_refl _))
  · subst e
    cases r1
    obtain ⟨its, rv, p, hz⟩ := I1.tuple hq
    refine wpAny_pyIter_tuple (show s1.heap.IsTuple a its.toArray from p) ?_
    refine ⟨s1.heap.objs.size, [s1.heap.objs.size], _, _, H1, rfl, I1.kept (t' := s1.toks) fun b o e => Heap.get?_push_of_some _ e, turn_tuple a _, ⟨_, Heap.get?_push_size _ rfl, rfl, rfl⟩, fun b hb => ?_, q⟩
    have e : b = s1.heap.objs.size := by simpa using hb
    subst e
    exact I1.fpOk (Nat.le_refl _) (I1.hok.fresh (Nat.le_refl _))
  · subst e
    obtain ⟨t, rfl⟩ := r1
    cases ha : y.cps.all (· < 128)
    · exact wpAny_pyIter_wide ha (pi_one (tk := s1.toks) I1 _ (turn_str _ y t "str_iterator" (.inr rfl)) ⟨_, Heap.get?_push_size _ rfl, rfl, rfl⟩ q)
    · exact wpAny_pyIter_ascii ha (pi_one (tk := s1.toks) I1 _ (turn_str _ y t "str_ascii_iterator" (.inl rfl)) ⟨_, Heap.get?_push_size _ rfl, rfl, rfl⟩ q)
theorem Aft.liftA {α β : Type} {R : Hp → Hp → L2.St → Env → α → β → Prop} {F H : Hp} {σ : L2.St} {ρ : Env} {o : Option α} {Q : β → Hp → Prop} (h : Aft c R F H σ (M.lift o ρ) Q) (S : SRc c F H σ ρ) :
    ∃ a, o = some a ∧ ∀ b F' H', Grow F H F' H' → R F' H' σ ρ a b → Q b H' := by
  cases o with
  | none => exact h.elim
  | some s => exact ⟨s, rfl, fun b F' H' g n => h b F' H' (S.grow g) g.f g.h n⟩
/-- .. in a comprehension: looked at -/
theorem j_src {A : M D} (hk : c.K = X.K) (h : PE X l (tP c A)) : PI X tg l (tJ c (src A)) := by
  refine (pi_seq h).imp fun σ H Q ⟨F, ρ, S, k⟩ => ⟨F, ρ, S, k.step fun d ρ1 x F1 H1 S1 r1 f1 h1 a1 => ?_⟩
  obtain ⟨ds, e, q⟩ := a1.liftA S1
  rw [← hk]
  cases d with
  | lst ds' =>
    cases e
    obtain ⟨a, vs, rfl, h2, k2⟩ := r1
    exact .inl ⟨a, rfl, ⟨vs, .inl h2⟩, q _ F1 H1 (Grow.refl S1.fh) (jok_list h2 k2)⟩
  | tup ds' =>
    cases e
    obtain ⟨a, vs, rfl, h2, k2⟩ := pkTup r1
    exact .inr (.inl ⟨a, rfl, ⟨vs, S1.fh.sqT h2⟩, q _ F1 H1 (Grow.refl S1.fh) (jok_tup (S1.fh.sqT h2) k2)⟩)
  | str s =>
    cases e
    exact .inr (.inr ⟨_, r1, q _ F1 H1 (Grow.refl S1.fh) jok_str⟩)
  | _ => cases e
/-- .. in a for: frozen -/
theorem k_src {A : M D} (hk : c.K = X.K) (h : PE X l (tF c A)) : PI X tg l (tK c (src A)) := by
  refine (pi_seq h).imp fun σ H Q ⟨F, ρ, S, k⟩ => ⟨F, ρ, S, k.step fun d ρ1 x F1 H1 S1 r1 f1 h1 a1 => ?_⟩
  obtain ⟨ds, e, q⟩ := a1.liftA S1
  rw [← hk]
  have r1 : Rep c.K F1 d x := r1
  cases d with
  | lst ds' =>
    cases e
    unfold Rep at r1
    obtain ⟨a, vs, rfl, h2, k2⟩ := r1
    exact .inl ⟨a, rfl, ⟨vs, .inl (S1.fh.rd h2)⟩, q _ F1 H1 (Grow.refl S1.fh) (jok_list h2 k2)⟩
  | tup ds' =>
    cases e
    unfold Rep at r1
    obtain ⟨a, vs, rfl, h2, k2⟩ := r1
    exact .inr (.inl ⟨a, rfl, ⟨vs, S1.fh.sqT h2⟩, q _ F1 H1 (Grow.refl S1.fh) (jok_tup h2 k2)⟩)
  | str s =>
    cases e
    exact .inr (.inr ⟨_, r1, q _ F1 H1 (Grow.refl S1.fh) jok_str⟩)
  | _ => cases e
/-- range -/
def rng1 (R : M (List D)) : M (List D) := R.bind fun ds => M.lift (match ds with | [.int j] => if -(2 ^ 62) ≤ j ∧ j < 2 ^ 62 then some (intsR 0 j.toNat) else none | _ => none)
def rng2 (R : M (List D)) : M (List D) := R.bind fun ds => M.lift (match ds with | [.int i, .int j] => if -(2 ^ 62) ≤ i ∧ i < 2 ^ 62 ∧ -(2 ^ 62) ≤ j ∧ j < 2 ^ 62 then some (intsR i (j - i).toNat) else none | _ => none)
theorem rng1_tr {R : M (List D)} {Rel : Hp → Hp → L2.St → Env → List D → It → Prop} (hR : ∀ F H σ ρ lo n, Rel F H σ ρ (intsR lo n) (Itr lo n)) {σ : L2.St} {H : Hp} {Q : It → Hp → Prop} (h : tG c Rel (rng1 R) σ H Q) : iRng1 (tPs c R) σ H Q := by
  obtain ⟨F, ρ, S, k⟩ := h
  refine ⟨F, ρ, S, k.step fun ds ρ1 xs F1 H1 S1 r1 f1 h1 a1 => ?_⟩
  obtain ⟨as, e, q⟩ := a1.liftA S1
  split at e
  · split at e
    · cases e
      rename_i hj
      obtain ⟨x, rfl, r2⟩ := PkRs.one r1
      have r2 : x = .int _ := r2
      subst r2
      exact ⟨_, rfl, hj.1, hj.2, q _ F1 H1 (Grow.refl S1.fh) (hR _ _ _ _ _ _)⟩
    · cases e
  · cases e
theorem rng2_tr {R : M (List D)} {Rel : Hp → Hp → L2.St → Env → List D → It → Prop} (hR : ∀ F H σ ρ lo n, Rel F H σ ρ (intsR lo n) (Itr lo n)) {σ : L2.St} {H : Hp} {Q : It → Hp → Prop} (h : tG c Rel (rng2 R) σ H Q) : iRng2 (tPs c R) σ H Q := by
  obtain ⟨F, ρ, S, k⟩ := h
  refine ⟨F, ρ, S, k.step fun ds ρ1 xs F1 H1 S1 r1 f1 h1 a1 => ?_⟩
  obtain ⟨as, e, q⟩ := a1.liftA S1
  split at e
  · split at e
    · cases e
      rename_i hj
      obtain ⟨x, y, rfl, r2, r3⟩ := PkRs.two r1
      have r2 : x = .int _ := r2
      have r3 : y = .int _ := r3
      subst r2
      subst r3
      exact ⟨_, _, rfl, hj, q _ F1 H1 (Grow.refl S1.fh) (hR _ _ _ _ _ _)⟩
    · cases e
  · cases e
theorem j_rng1 {R : M (List D)} {a : Expr} (hg : Gl X "range") (hm : X.mg "range" = none) (ha : PA X [a] (tPs c R)) (hs : starEach [a] X.env = [(false, eval a X.env)] := by rfl) : PI X tg (.Call (.Name "range" p) [a] [] pos) (tJ c (rng1 R)) :=
  (pi_range1 hg hm ha hs).imp fun _ _ _ h => rng1_tr (fun _ _ _ _ _ _ => jok_range) h
theorem k_rng1 {R : M (List D)} {a : Expr} (hg : Gl X "range") (hm : X.mg "range" = none) (ha : PA X [a] (tPs c R)) (hs : starEach [a] X.env = [(false, eval a X.env)] := by rfl) : PI X tg (.Call (.Name "range" p) [a] [] pos) (tK c (rng1 R)) :=
  (pi_range1 hg hm ha hs).imp fun _ _ _ h => rng1_tr (fun _ _ _ _ _ _ => jok_range) h
theorem j_rng2 {R : M (List D)} {a b : Expr} (hg : Gl X "range") (hm : X.mg "range" = none) (ha : PA X [a, b] (tPs c R)) (hs : starEach [a, b] X.env = [(false, eval a X.env), (false, eval b X.env)] := by rfl) (hs2 : starEach [b] X.env = [(false, eval b X.env)] := by rfl) :
    PI X tg (.Call (.Name "range" p) [a, b] [] pos) (tJ c (rng2 R)) := (pi_range2 hg hm ha hs hs2).imp fun _ _ _ h => rng2_tr (fun _ _ _ _ _ _ => jok_range) h
theorem k_rng2 {R : M (List D)} {a b : Expr} (hg : Gl X "range") (hm : X.mg "range" = none) (ha : PA X [a, b] (tPs c R)) (hs : starEach [a, b] X.env = [(false, eval a X.env), (false, eval b X.env)] := by rfl) (hs2 : starEach [b] X.env = [(false, eval b X.env)] := by rfl) :
    PI X tg (.Call (.Name "range" p) [a, b] [] pos) (tK c (rng2 R)) := (pi_range2 hg hm ha hs hs2).imp fun _ _ _ h => rng2_tr (fun _ _ _ _ _ _ => jok_range) h
/-- enumerate, zip of lists -/
def enumL (R : M (List D)) : M (List D) := R.bind fun ds => M.lift (match ds with | [.lst xs] => some (pairs 0 xs) | _ => none)
def zipL (R : M (List D)) : M (List D) := R.bind fun ds => M.lift (match ds with | [.lst xs, .lst ys] => some (zips xs ys) | _ => none)
theorem j_enum {R : M (List D)} {tpos : Pos} {elts : List Expr} {kk : Nat} (hk : c.K = X.K) (hg : Gl X "enumerate") (hm : X.mg "enumerate" = none) (ha : PA X [e] (tPs c R)) (hs : starEach [e] X.env = [(false, eval e X.env)] := by rfl) :
    PI X (.Tuple elts kk tpos) (.Call (.Name "enumerate" p) [e] [] pos) (tJ c (enumL R)) := by
  refine (pi_enum hg hm ha hs).imp fun σ H Q ⟨F, ρ, S, k⟩ => ⟨F, ρ, S, k.step fun ds ρ1 xs F1 H1 S1 r1 f1 h1 a1 => ?_⟩
  obtain ⟨as, e, q⟩ := a1.liftA S1
  rw [← hk]
  split at e
  · cases e
    obtain ⟨x, rfl, a, vs, rfl, h2, k2⟩ := PkRs.one r1
    exact ⟨a, vs, rfl, .inl h2, q _ F1 H1 (Grow.refl S1.fh) (jok_enum h2 k2)⟩
  · cases e
theorem j_zip {R : M (List D)} {e2 : Expr} {tpos : Pos} {elts : List Expr} {kk : Nat} (hk : c.K = X.K) (hg : Gl X "zip") (hm : X.mg "zip" = none) (ha : PA X [e, e2] (tPs c R)) (hs : starEach [e, e2] X.env = (false, eval e X.env) :: starEach [e2] X.env := by rfl) (hpl : (backTo pos (starEach [e2] X.env)).any (·.1) = false := by rfl) :
    PI X (.Tuple elts kk tpos) (.Call (.Name "zip" p) [e, e2] [] pos) (tJ c (zipL R)) := by
  refine (pi_zip hg hm ha hs hpl).imp fun σ H Q ⟨F, ρ, S, k⟩ => ⟨F, ρ, S, k.step fun ds ρ1 xs F1 H1 S1 r1 f1 h1 a1 => ?_⟩
  obtain ⟨as, e, q⟩ := a1.liftA S1
  rw [← hk]
  split at e
  · cases e
    obtain ⟨x, y, rfl, ⟨a, vs, rfl, h2, k2⟩, ⟨b, us, rfl, h3, k3⟩⟩ := PkRs.two r1
    exact ⟨a, b, vs, us, rfl, .inl h2, .inl h3, q _ F1 H1 (Grow.refl S1.fh) (jok_zip h2 k2 h3 k3)⟩
  · cases e
theorem PkRs.ofF {K : Fr} {F H : Hp} (fh : Sub F H) : ∀ {ds : List D} {vs : List V}, Reps K F ds vs → PkRs K F H ds vs
  | [], vs, h => h.inv0
  | d :: ds, vs, h => by
    obtain ⟨v, r, rfl, k1, k2⟩ := h.inv
    exact ⟨v, r, rfl, Rep.pk fh k1, PkRs.ofF fh k2⟩
theorem k_enum {R : M (List D)} {tpos : Pos} {elts : List Expr} {kk : Nat} (hk : c.K = X.K) (hg : Gl X "enumerate") (hm : X.mg "enumerate" = none) (ha : PA X [e] (tFs c R)) (hs : starEach [e] X.env = [(false, eval e X.env)] := by rfl) :
    PI X (.Tuple elts kk tpos) (.Call (.Name "enumerate" p) [e] [] pos) (tK c (enumL R)) := by
  refine (pi_enum hg hm ha hs).imp fun σ H Q ⟨F, ρ, S, k⟩ => ⟨F, ρ, S, k.step fun ds ρ1 xs F1 H1 S1 r1 f1 h1 a1 => ?_⟩
  obtain ⟨as, e, q⟩ := a1.liftA S1
  rw [← hk]
  split at e
  · cases e
    obtain ⟨x, r, rfl, k2, k3⟩ := Reps.inv r1
    have k3 := k3.inv0
    subst k3
    unfold Rep at k2
    obtain ⟨a, vs, rfl, h2, k2⟩ := k2
    exact ⟨a, vs, rfl, .inl (S1.fh.rd h2), q _ F1 H1 (Grow.refl S1.fh) (jok_enum h2 k2)⟩
  · cases e
theorem k_zip {R : M (List D)} {e2 : Expr} {tpos : Pos} {elts : List Expr} {kk : Nat} (hk : c.K = X.K) (hg : Gl X "zip") (hm : X.mg "zip" = none) (ha : PA X [e, e2] (tFs c R)) (hs : starEach [e, e2] X.env = (false, eval e X.env) :: starEach [e2] X.env := by rfl) (hpl : (backTo pos (starEach [e2] X.env)).any (·.1) = false := by rfl) :
    PI X (.Tuple elts kk tpos) (.Call (.Name "zip" p) [e, e2] [] pos) (tK c (zipL R)) := by
  refine (pi_zip hg hm ha hs hpl).imp fun σ H Q ⟨F, ρ, S, k⟩ => ⟨F, ρ, S, k.step fun ds ρ1 xs F1 H1 S1 r1 f1 h1 a1 => ?_⟩
  obtain ⟨as, e, q⟩ := a1.liftA S1
  rw [← hk]
  split at e
  · cases e
    obtain ⟨x, r, rfl, k2, k3⟩ := Reps.inv r1
    obtain ⟨y, r', rfl, k4, k5⟩ := k3.inv
    have k5 := k5.inv0
    subst k5
    unfold Rep at k2 k4
    obtain ⟨a, vs, rfl, h2, k2⟩ := k2
    obtain ⟨b, us, rfl, h4, k4⟩ := k4
    exact ⟨a, b, vs, us, rfl, .inl (S1.fh.rd h2), .inl (S1.fh.rd h4), q _ F1 H1 (Grow.refl S1.fh) (jok_zip h2 k2 h4 k4)⟩
  · cases e
end
end PM
namespace PM
open PySem L2 PyProof.Rows
variable {pp : Pin}

/-! ### list comprehensions -/
def wipeE (ρ : Env) : List Nat → Env
  | [] => ρ
  | v :: vs => (wipeE ρ vs).set v none
def restE (ρ ρ2 : Env) : List Nat → Env
  | [] => ρ2
  | v :: vs => (restE ρ ρ2 vs).set v (ρ[v]?).join
section
variable {K : Fr} {B F0 F H F2 H2 : Hp} {σ σ2 : L2.St} {ρ ρ2 : Env} {vs : List Nat}
theorem SR.wipe (S : SR pp K B F0 F H σ ρ) : ∀ vs : List Nat, (∀ j ∈ vs, Pin.free pp j) → SR pp K B F0 F H (L2.wipe σ vs) (wipeE ρ vs)
  | [], _ => S
  | v :: vs, fr => (SR.wipe S vs fun j hj => fr j (List.mem_cons_of_mem _ hj)).forget v (fr v List.mem_cons_self)
theorem wipe_get {j : Nat} : ∀ {vs : List Nat}, j ∉ vs → (L2.wipe σ vs)[j]? = σ[j]?
  | [], _ => rfl
  | v :: vs, h => by
    unfold L2.wipe
    rw [List.getElem?_set_ne (fun z => h (by rw [z]; exact List.mem_cons_self)), wipe_get fun z => h (List.mem_cons_of_mem _ z)]
theorem wipe_in {j : Nat} : ∀ {vs : List Nat}, j ∈ vs → j < σ.length → (L2.wipe σ vs)[j]? = some none
  | [], h, _ => by cases h
  | v :: vs, h, hl => by
    unfold L2.wipe
    by_cases e : v = j
    · subst e
      rw [List.getElem?_set_self (by rw [wipe_length]; exact hl)]
    · rw [List.getElem?_set_ne e]
      exact wipe_in ((List.mem_cons.mp h).resolve_left fun z => e z.symm) hl
theorem wipe_ext (hl : σ2.length = σ.length) (h : ∀ j, j ∉ vs → σ2[j]? = σ[j]?) : L2.wipe σ2 vs = L2.wipe σ vs := by
  apply List.ext_getElem?
  intro j
  by_cases hj : j ∈ vs
  · by_cases hz : j < σ.length
    · rw [wipe_in hj hz, wipe_in hj (by rw [hl]; exact hz)]
    · rw [List.getElem?_eq_none (by rw [wipe_length]; omega), List.getElem?_eq_none (by rw [wipe_length]; omega)]
  · rw [wipe_get hj, wipe_get hj, h j hj]
theorem wipeE_length (ρ : Env) : ∀ vs : List Nat, (wipeE ρ vs).length = ρ.length
  | [] => rfl
  | v :: vs => by unfold wipeE; rw [List.length_set, wipeE_length ρ vs]
theorem rest_length (ρ ρ2 : Env) : ∀ vs : List Nat, (restE ρ ρ2 vs).length = ρ2.length
  | [] => rfl
  | v :: vs => by unfold restE; rw [List.length_set, rest_length ρ ρ2 vs]
theorem rest_get {j : Nat} : ∀ {vs : List Nat}, j ∉ vs → (restE ρ ρ2 vs)[j]? = ρ2[j]?
  | [], _ => rfl
  | v :: vs, h => by
    unfold restE
    rw [List.getElem?_set_ne (fun z => h (by rw [z]; exact List.mem_cons_self)), rest_get fun z => h (List.mem_cons_of_mem _ z)]
theorem rest_in {j : Nat} : ∀ {vs : List Nat}, j ∈ vs → j < ρ2.length → (restE ρ ρ2 vs)[j]? = some (ρ[j]?).join
  | [], h, _ => by cases h
  | v :: vs, h, hl => by
    unfold restE
    by_cases e : v = j
    · subst e
      rw [List.getElem?_set_self (by rw [rest_length]; exact hl)]
    · rw [List.getElem?_set_ne e]
      exact rest_in ((List.mem_cons.mp h).resolve_left fun z => e z.symm) hl
def clean (vs : List Nat) (ρ : Env) : Bool := vs.all fun j => !owned ρ j
theorem SR.rest (S : SR pp K B F0 F H σ ρ) (S2 : SR pp K B F0 F2 H2 σ2 ρ2) (f : Sub F F2) (hl : σ2.length = σ.length) (hs : ∀ j, j ∉ vs → σ2[j]? = σ[j]?) (hc : clean vs ρ = true) : SR pp K B F0 F2 H2 σ (restE ρ ρ2 vs) where
  pk := S.pk
  bh := S2.bh
  fh := S2.fh
  f0 := S2.f0
  new := S2.new
  len := by rw [rest_length, ← S2.len, hl]
  sl := fun j s e => by
    by_cases hj : j ∈ vs
    · have hlt : j < ρ2.length := by
        have := (List.getElem?_eq_some_iff.mp e).1
        rwa [rest_length] at this
      rw [rest_in hj hlt] at e
      cases q : ρ[j]? with
      | none => rw [q] at e; cases e
      | some s0 =>
        rw [q] at e
        cases s0 with
        | none => cases e
        | some s0 =>
          have e : s0 = s := by simpa using e
          subst e
          obtain ⟨v, h1, h2⟩ := S.sl j _ q
          have := List.all_eq_true.mp hc j hj
          obtain ⟨o, d⟩ := s0
          cases o with
          | false => exact ⟨v, h1, Rep.mono f d v h2⟩
          | true => unfold owned at this; rw [q] at this; cases this
    · rw [rest_get hj] at e
      obtain ⟨v, h1, h2⟩ := S2.sl j s e
      exact ⟨v, by rw [← hs j hj]; exact h1, h2⟩
  sep := fun a b p da db e1 e2 e3 e4 => by
    have out : ∀ {j : Nat} {d : D}, (restE ρ ρ2 vs)[j]? = some (some (true, d)) → j ∉ vs := fun {j d} e hj => by
      have hlt : j < ρ2.length := by
        have := (List.getElem?_eq_some_iff.mp e).1
        rwa [rest_length] at this
      rw [rest_in hj hlt] at e
      cases q : ρ[j]? with
      | none => rw [q] at e; cases e
      | some s0 =>
        rw [q] at e
        have e : s0 = some (true, d) := by simpa using e
        subst e
        have := List.all_eq_true.mp hc j hj
        unfold owned at this
        rw [q] at this
        cases this
    have h1 := out e1
    have h2 := out e2
    rw [rest_get h1] at e1
    rw [rest_get h2] at e2
    rw [← hs a h1] at e3
    rw [← hs b h2] at e4
    exact S2.sep a b p da db e1 e2 e3 e4
theorem clean_rest (hc : clean vs ρ = true) (hl : ρ2.length = ρ.length) : clean vs (restE ρ ρ2 vs) = true := by
  refine List.all_eq_true.mpr fun j hj => ?_
  have := List.all_eq_true.mp hc j hj
  unfold owned at this ⊢
  by_cases hz : j < ρ2.length
  · rw [rest_in hj hz]
    cases q : ρ[j]? with
    | none => rfl
    | some s0 => rw [q] at this; exact this
  · rw [List.getElem?_eq_none (by rw [rest_length]; omega)]
    rfl
/-- a cell of our own is kept from becoming data -/
theorem SR.guard (S : SR pp K B F0 F H σ ρ) {D : Addr} {o : HO} (h : H D = none) : SR pp K (L2.upd B D o) F0 F (L2.upd H D o) σ ρ where
  pk := S.pk
  bh := fun a u e => by
    by_cases z : a = D
    · subst z; rw [upd_same] at e ⊢; exact e
    · rw [upd_ne z] at e ⊢; exact S.bh a u e
  fh := S.fh.trans (Sub.upd h)
  f0 := S.f0
  new := fun a u e => by
    rcases S.new a u e with z | z
    · exact .inl z
    · have : a ≠ D := ne_of_none (S.fh a u e) h
      exact .inr (by rw [upd_ne this]; exact z)
  len := S.len
  sl := fun j s e => by
    obtain ⟨v, h1, h2⟩ := S.sl j s e
    refine ⟨v, h1, ?_⟩
    obtain ⟨ow, d⟩ := s
    cases ow with
    | false => exact h2
    | true =>
      obtain ⟨p, rfl, fp, bp, kp⟩ := h2
      obtain ⟨u, hu⟩ := kp.there
      have np : p ≠ D := ne_of_none hu h
      exact ⟨p, rfl, fp, by rw [upd_ne np]; exact bp, kp.mono (Sub.refl _) fun u hu => by rw [upd_ne np]; exact hu⟩
  sep := S.sep
theorem SR.unguard {D : Addr} {o : HO} (S : SR pp K (L2.upd B D o) F0 F H σ ρ) (hB : B D = none) : SR pp K B F0 F H σ ρ where
  pk := S.pk
  bh := (Sub.upd hB).trans S.bh
  fh := S.fh
  f0 := S.f0
  new := fun a u e => by
    rcases S.new a u e with z | z
    · exact .inl z
    · refine .inr ?_
      by_cases q : a = D
      · subst q; exact hB
      · rw [upd_ne q] at z; exact z
  len := S.len
  sl := fun j s e => by
    obtain ⟨v, h1, h2⟩ := S.sl j s e
    refine ⟨v, h1, ?_⟩
    obtain ⟨ow, d⟩ := s
    cases ow with
    | false => exact h2
    | true =>
      obtain ⟨p, rfl, fp, bp, kp⟩ := h2
      exact ⟨p, rfl, fp, (Sub.upd hB).none bp, kp⟩
  sep := S.sep
theorem SR.regard {D : Addr} {o o' : HO} (S : SR pp K (L2.upd B D o) F0 F H σ ρ) (hF : F D = none) : SR pp K (L2.upd B D o') F0 F (L2.upd H D o') σ ρ where
  pk := S.pk
  bh := fun a u e => by
    by_cases z : a = D
    · subst z; rw [upd_same] at e ⊢; exact e
    · rw [upd_ne z] at e ⊢; exact S.bh a u (by rw [upd_ne z]; exact e)
  fh := fun a u e => by
    have : a ≠ D := ne_of_none e hF
    rw [upd_ne this]; exact S.fh a u e
  f0 := S.f0
  new := fun a u e => by
    have : a ≠ D := ne_of_none e hF
    rcases S.new a u e with z | z
    · exact .inl z
    · exact .inr (by rw [upd_ne this] at z ⊢; exact z)
  len := S.len
  sl := fun j s e => by
    obtain ⟨v, h1, h2⟩ := S.sl j s e
    refine ⟨v, h1, ?_⟩
    obtain ⟨ow, d⟩ := s
    cases ow with
    | false => exact h2
    | true =>
      obtain ⟨p, rfl, fp, bp, kp⟩ := h2
      have np : p ≠ D := fun z => by subst z; rw [upd_same] at bp; cases bp
      exact ⟨p, rfl, fp, by rw [upd_ne np] at bp ⊢; exact bp, kp.mono (Sub.refl _) fun u hu => by rw [upd_ne np]; exact hu⟩
  sep := S.sep
theorem SR.unheld {D : Addr} {o : HO} (S : SR pp K (L2.upd B D o) F0 F H σ ρ) (h0 : F0 D = none) : F D = none := by
  cases q : F D with
  | none => rfl
  | some u =>
    rcases S.new D u q with z | z
    · rw [h0] at z; cases z
    · rw [upd_same] at z; cases z
end
def compF (T : Tg) (G : M Bool) (E : M D) (vs : List Nat) : List D → Env → Out (List D)
  | [], ρ => .ok [] ρ
  | d :: ds, ρ => match T d (wipeE ρ vs) with
    | none => .bad
    | some ρ1 => match G ρ1 with
      | .ok false ρ2 => compF T G E vs ds (restE ρ ρ2 vs)
      | .ok true ρ2 => (match E ρ2 with
        | .ok x ρ3 => (match compF T G E vs ds (restE ρ ρ3 vs) with
          | .ok xs ρ4 => .ok (x :: xs) ρ4
          | .exc e ρ4 => .exc e ρ4
          | .bad => .bad)
        | _ => .bad)
      | _ => .bad
def lcE (A : M (List D)) (T : Tg) (G : M Bool) (E : M D) (vs : List Nat) : M Slot := A.bind fun ds ρ =>
  if clean vs ρ && decide (ds.length < sizeLine) then (match compF T G E vs ds ρ with
    | .ok xs ρ' => .ok (true, .lst xs) ρ'
    | _ => .bad) else .bad
abbrev cB (c : Ct) (B : Hp) : Ct := { c with B := B, W := fun _ _ _ _ => False }
def xT (c : Ct) (G : M Bool) : TT := fun σ H Q => ∃ B, tT (cB c B) G σ H Q
def xF (c : Ct) (E : M D) : TE := fun σ H Q => ∃ B, tF (cB c B) E σ H Q
theorem lc_tr {c : Ct} {A : M (List D)} {T : Tg} {G : M Bool} {E : M D} {vs js : List Nat} {g : TG} (hg : TgOk c.K g T js) (hjs : ∀ j ∈ js, j ∈ vs) (fr : ∀ j ∈ vs, Pin.free c.pp j) {σ : L2.St} {H : Hp} {Q : VK} (h : tE c (lcE A T G E vs) σ H Q) : tLc (tJ c A) g (xT c G) (xF c E) vs σ H Q := by
  obtain ⟨F, ρ, S, k⟩ := h
  refine ⟨F, ρ, S, k.step fun ds ρ1 J F1 H1 S1 r1 f1 h1 a1 D hD => ?_⟩
  have r1 : JOk c.K H1 F1 J ds := r1
  by_cases hcl : (clean vs ρ1 && decide (ds.length < sizeLine)) = true
  · rw [if_pos hcl] at a1
    have hcl := Bool.and_eq_true_iff.mp hcl
    have hsz : ds.length < sizeLine := of_decide_eq_true hcl.2
    cases hall : compF T G E vs ds ρ1 with
    | exc e r => rw [hall] at a1; exact a1.elim
    | bad => rw [hall] at a1; exact a1.elim
    | ok xs ρe =>
      rw [hall] at a1
      dsimp only at a1
      have hF0 : c.F0 D = none := (S1.f0.trans S1.fh).none hD
      have hB0 : c.B D = none := S1.bh.none hD
      refine ⟨fun i m H' => m = ds.length - i ∧ i ≤ ds.length ∧ ∃ F' ρ' acc us es, H' D = some (.lst us) ∧ Reps c.K F' acc us ∧ SR c.pp c.K (upd c.B D (.lst us)) c.F0 F' H' σ ρ' ∧ Sub F1 F' ∧ Sub H1 H' ∧ clean vs ρ' = true ∧ ρ'.length = ρ1.length ∧ compF T G E vs (ds.drop i) ρ' = .ok es ρe ∧ xs = acc ++ es ∧ acc.length ≤ i,
        ⟨ds.length, rfl, Nat.zero_le _, F1, ρ1, [], [], xs, upd_same, Reps.nil, S1.guard hD, Sub.refl _, Sub.upd hD, hcl.1, rfl, hall, rfl, Nat.le_refl _⟩, ?_⟩
      rintro i m H' ⟨rfl, hi, F', ρ', acc, us, es, hDu, ru, S', f', g', cl', ln', hc, rfl, hal⟩
      have hFD : F' D = none := S'.unheld hF0
      rcases Nat.lt_or_ge i ds.length with hlt | hge
      · refine .inr ⟨r1.go i H' g' hlt, ?_⟩
        refine ⟨fun H2 => ∃ F2 ρ2 acc2 us2 es2, H2 D = some (.lst us2) ∧ Reps c.K F2 acc2 us2 ∧ SR c.pp c.K (upd c.B D (.lst us2)) c.F0 F2 H2 σ ρ2 ∧ Sub F1 F2 ∧ Sub H1 H2 ∧ clean vs ρ2 = true ∧ ρ2.length = ρ1.length ∧ compF T G E vs (ds.drop (i + 1)) ρ2 = .ok es2 ρe ∧ acc ++ es = acc2 ++ es2 ∧ acc2.length ≤ i + 1,
          fun H2 hx => ⟨ds.length - (i + 1), by omega, rfl, by omega, hx⟩, fun x H2 y => ?_⟩
        obtain ⟨F2, d, g2, hd, rd⟩ := r1.yld i F' H' x H2 g' f' S'.fh hlt y
        have S2 := S'.grow g2
        have edrop : ds.drop i = d :: ds.drop (i + 1) := by
          rw [List.drop_eq_getElem_cons hlt]
          have : ds[i] = d := by
            rw [List.getElem?_eq_getElem hlt] at hd
            exact Option.some.inj hd
          rw [this]
        rw [edrop] at hc
        unfold compF at hc
        cases hT : T d (wipeE ρ' vs) with
        | none => rw [hT] at hc; cases hc
        | some ρ2 =>
          rw [hT] at hc
          dsimp only at hc
          refine hg.run _ _ _ _ _ _ _ d x ρ2 _ (fun j hj => fr j (hjs j hj)) (S2.wipe vs fr) rd hT fun σ2 T2 l2 k2 => ?_
          rw [wipe_length] at l2
          have hs : ∀ j, j ∉ vs → σ2[j]? = σ[j]? := fun j hj => by rw [(k2 j fun z => hj (hjs j z)).1, wipe_get hj]
          have hDu2 : H2 D = some (.lst us) := g2.h D _ hDu
          refine ⟨wipe_ext l2 hs, upd c.B D (.lst us), F2, ρ2, T2, ?_⟩
          cases hG : G ρ2 with
          | exc e r => rw [hG] at hc; cases hc
          | bad => rw [hG] at hc; cases hc
          | ok b ρ3 =>
            rw [hG] at hc
            intro b' F3 H3 S3 f3 h3 eb
            have eb : b' = b := eb
            subst eb
            have l3 : ρ3.length = ρ'.length := by rw [← S3.len, l2, S'.len]
            cases b' with
            | false =>
              dsimp only at hc
              simp only [Bool.false_eq_true, if_false]
              exact ⟨F3, restE ρ' ρ3 vs, acc, us, es, h3 D _ hDu2, Reps.mono (g2.f.trans f3) _ _ ru, S'.rest S3 (g2.f.trans f3) l2 hs cl', (f'.trans g2.f).trans f3, (g'.trans g2.h).trans h3, clean_rest cl' l3, by rw [rest_length, l3, ln'], hc, rfl, by omega⟩
            | true =>
              dsimp only at hc
              simp only [if_true]
              refine ⟨upd c.B D (.lst us), F3, ρ3, S3, ?_⟩
              cases hE : E ρ3 with
              | exc e r => rw [hE] at hc; cases hc
              | bad => rw [hE] at hc; cases hc
              | ok z ρ4 =>
                rw [hE] at hc
                dsimp only at hc
                intro y F4 H4 S4 f4 h4 ry
                have ry : Rep c.K F4 z y := ry
                have hDu4 : H4 D = some (.lst us) := h4 D _ (h3 D _ hDu2)
                have l4 : ρ4.length = ρ'.length := by rw [← S4.len, l2, S'.len]
                have hFD4 : F4 D = none := S4.unheld hF0
                cases hR : compF T G E vs (ds.drop (i + 1)) (restE ρ' ρ4 vs) with
                | exc e r => rw [hR] at hc; cases hc
                | bad => rw [hR] at hc; cases hc
                | ok es2 r =>
                  rw [hR] at hc
                  dsimp only at hc
                  cases hc
                  refine ⟨us, hDu4, by rw [← ru.length]; omega, F4, restE ρ' ρ4 vs, acc ++ [z], us ++ [y], es2, upd_same, (Reps.mono ((g2.f.trans f3).trans f4) _ _ ru).append (Reps.cons ry Reps.nil), (S'.rest S4 ((g2.f.trans f3).trans f4) l2 hs cl').regard hFD4, ((f'.trans g2.f).trans f3).trans f4, fun a o e => ?_, clean_rest cl' l4, by rw [rest_length, l4, ln'], hR, by simp, by rw [List.length_append, List.length_singleton]; omega⟩
                  have na : a ≠ D := ne_of_none e hD
                  rw [upd_ne na]
                  exact h4 a o (h3 a o (g2.h a o (g' a o e)))
      · refine .inl ⟨r1.stop i H' g' hge, ?_⟩
        have e0 : ds.drop i = [] := List.drop_eq_nil_of_le hge
        rw [e0] at hc
        cases hc
        rw [List.append_nil] at a1
        refine a1 (.ref D) F' H' (S'.unguard hB0) f' g' ⟨⟨D, rfl, hFD, hB0, us, hDu, ru⟩, fun _ j d' e1 e2 => ?_⟩
        obtain ⟨v, h1, p, rfl, _, bp, _⟩ := S'.sl j _ e1
        rw [e2] at h1; cases h1
        rw [upd_same] at bp; cases bp
  · rw [if_neg hcl] at a1
    exact a1.elim
end PM
namespace PM
open PySem L2 PyProof.Rows
variable {pp : Pin}

/-! ### comprehensions as expressions -/
theorem _root_.L2.PTs.imp {X : Cx} {es : List Expr} {t t' : TT} (h : PTs X es t) (k : ∀ σ H Q, t' σ H Q → t σ H Q) : PTs X es t' := ⟨fun pins s σ H Q I hw => h.run pins s σ H Q I (k σ H Q hw)⟩
def yes : M Bool := fun ρ => .ok true ρ
section
variable {X : Cx} {c : Ct} {e : Expr}
theorem x_nil : PTs X [] (xT c yes) := pts_nil.imp fun σ H Q ⟨B, F, ρ, S, k⟩ => k true F H S (Sub.refl _) (Sub.refl _) rfl
theorem x_one {G : M Bool} (h : ∀ B, PT X e (tT (cB c B) G)) : PTs X [e] (xT c G) := ⟨fun pins s σ H Q I ⟨B, hw⟩ => (pts_one (h B)).run pins s σ H Q I hw⟩
theorem x_elt {E : M D} (h : ∀ B, PE X e (tF (cB c B) E)) : PE X e (xF c E) := ⟨fun pins s σ H Q I ⟨B, hw⟩ => (h B).run pins s σ H Q I hw⟩
theorem e_lc {elt tg iter : Expr} {ifs : List Expr} {scope : Scope} {own : List (Str × Nat)} {pos : Pos} {A : M (List D)} {g : TG} {T : Tg} {js : List Nat} {G : M Bool} {E : M D} (hc : X.calm = true) (hN : X.N.Nodup) (hi : PI X tg iter (tJ c A)) (ok : BlkOk X.N X.env.scope scope own)
    (hg : ∀ (s : Shared) (H : Hp) (C : Addr) (cl : List (Str × Addr)) (fp : List Addr), PG (X.blk s H scope (compEnvC scope cl C X.env) fp) tg g) (hT : TgOk c.K g T js) (hj : ∀ j ∈ js, j ∈ own.map (·.2))
    (ht : ∀ (s : Shared) (H : Hp) (C : Addr) (cl : List (Str × Addr)) (fp : List Addr), PTs (X.blk s H scope (compEnvC scope cl C X.env) fp) ifs (xT c G))
    (he : ∀ (s : Shared) (H : Hp) (C : Addr) (cl : List (Str × Addr)) (fp : List Addr), PE (X.blk s H scope (compEnvC scope cl C X.env) fp) elt (xF c E)) (hs : ∀ x, foldedSetIterable iter X.env x = pure x := by intro _; rfl)
    (fr : ∀ j ∈ own.map (·.2), Pin.free c.pp j := by exact fun _ _ => PM.Pin.free_no) : PE X (.ListComp elt [⟨tg, iter, ifs, 0⟩] scope pos) (tE c (lcE A T G E (own.map (·.2)))) :=
  (pe_lc hc hN hi ok hg ht he hs).imp fun _ _ _ h => lc_tr hT hj fr h
end

/-! ### statements -/
def skip : SM := fun ρ => .nx ρ
def seqS (S1 S2 : SM) : SM := fun ρ => match S1 ρ with
  | .nx ρ' => S2 ρ'
  | o => o
def brkS : SM := fun ρ => .bk ρ
def cntS : SM := fun ρ => .ct ρ
def asgS (i : Nat) (A : M Slot) : SM := A.thenS fun s ρ => .nx (ρ.set i (some s))
def tgS (A : M D) (T : Tg) : SM := A.thenS fun d ρ => match T d ρ with
  | some ρ' => .nx ρ'
  | none => .bad
def parS (i j : Nat) (R : M (List D)) : SM := R.thenS fun ds ρ => match ds with
  | [a, b] => .nx ((ρ.set i (some (false, a))).set j (some (false, b)))
  | _ => .bad
def setS (j : Nat) (A I : M D) : SM := A.thenS fun d ρ => if owned ρ j then (I.thenS fun i ρ2 => match ρ2[j]?, i with
  | some (some (true, .lst xs)), .int i => (match ixN xs.length i with
    | some k => .nx (ρ2.set j (some (true, .lst (xs.set k d))))
    | none => .bad)
  | _, _ => .bad) ρ else .bad
def appS (j : Nat) (A : M D) : SM := fun ρ => match ρ[j]? with
  | some (some (true, .lst _)) => (A.thenS fun d ρ2 => match ρ2[j]? with
    | some (some (true, .lst xs)) => if xs.length < sizeLine then .nx (ρ2.set j (some (true, .lst (xs ++ [d])))) else .bad
    | _ => .bad) ρ
  | _ => .bad
def augS (i : Nat) (f : D → D → Option Slot) (A : M D) : SM := fun ρ => match ρ[i]? with
  | some (some (_, d0)) => (A.thenS fun d ρ2 => match f d0 d with
    | some s => .nx (ρ2.set i (some s))
    | none => .bad) ρ
  | _ => .bad
def dropS (A : M Slot) : SM := A.thenS fun _ ρ => .nx ρ
def retS (A : M Slot) : SM := A.thenS fun s _ => .rt s
def retN : SM := fun _ => .rt (false, .non)
def retV (i : Nat) : SM := fun ρ => match ρ[i]? with
  | some (some s) => .rt s
  | _ => .bad
def ifS (G : M Bool) (S1 S2 : SM) : SM := G.thenS fun b => if b = true then S1 else S2
def whileF (G : M Bool) (S : SM) : Nat → SM
  | 0, _ => .bad
  | n + 1, ρ => match G ρ with
    | .ok true ρ1 => (match S ρ1 with
      | .nx ρ2 => whileF G S n ρ2
      | .ct ρ2 => whileF G S n ρ2
      | .bk ρ2 => .nx ρ2
      | .rt s => .rt s
      | .exc e ρ2 => .exc e ρ2
      | .bad => .bad)
    | .ok false ρ1 => .nx ρ1
    | .exc e ρ1 => .exc e ρ1
    | .bad => .bad
def forF (T : Tg) (S : SM) : List D → SM
  | [], ρ => .nx ρ
  | d :: ds, ρ => match T d ρ with
    | none => .bad
    | some ρ1 => match S ρ1 with
      | .nx ρ2 => forF T S ds ρ2
      | .ct ρ2 => forF T S ds ρ2
      | .bk ρ2 => .nx ρ2
      | .rt s => .rt s
      | .exc e ρ2 => .exc e ρ2
      | .bad => .bad
def forS (A : M (List D)) (T : Tg) (S : SM) : SM := A.thenS fun ds => forF T S ds

section
variable {X : Cx} {c : Ct} {e : Expr} {es : List Expr} {s : Stmt} {ss : List Stmt} {pos pos' : Pos} {S1 S2 : SM}
theorem ss_nil : PSs X [] (tS c skip) := pss_nil.imp fun D σ H ⟨F, ρ, S, k⟩ => k σ F H S
theorem ss_cons (h1 : PS X s (tS c S1)) (h2 : PSs X ss (tS c S2)) : PSs X (s :: ss) (tS c (seqS S1 S2)) := by
  refine (pss_cons h1 h2).imp fun D σ H ⟨F, ρ, S, k⟩ => ⟨F, ρ, S, ?_⟩
  unfold seqS at k
  cases q : S1 ρ with
  | nx ρ' => rw [q] at k; exact fun σ' F' H' S' => ⟨F', ρ', S', k⟩
  | bk ρ' => rw [q] at k; exact k
  | ct ρ' => rw [q] at k; exact k
  | rt s => rw [q] at k; exact k
  | exc e ρ' => rw [q] at k; exact k
  | bad => rw [q] at k; exact k
theorem ss_one (h1 : PS X s (tS c S1)) : PSs X [s] (tS c S1) := pss_one h1
theorem s_pass : PS X (.Pass pos) (tS c skip) := ps_pass.imp fun D σ H ⟨F, ρ, S, k⟩ => k σ F H S
theorem s_brk : PS X (.Break pos) (tS c brkS) := ps_break.imp fun D σ H ⟨F, ρ, S, k⟩ => k σ F H S
theorem s_cnt : PS X (.Continue pos) (tS c cntS) := ps_continue.imp fun D σ H ⟨F, ρ, S, k⟩ => k σ F H S
theorem asg_tr {A : M Slot} {i : Nat} {D : Ends} {σ : L2.St} {H : Hp} (fr : Pin.free c.pp i) (h : tS c (asgS i A) D σ H) : tAsg (tE c A) (gName i) D σ H := by
  obtain ⟨F, ρ, S, k⟩ := h
  exact ⟨F, ρ, S, k.step fun s ρ1 x F1 H1 S1 r1 f1 h1 a1 => a1 _ F1 H1 (S1.set i r1.1 r1.2 fr)⟩
theorem s_set {i : Nat} {x : Str} {A : M Slot} (hN : X.N.Nodup) (hi : X.N[i]? = some x) (hx : Loc X.env.scope x) (he : PE X e (tE c A)) (hs : swapsWith e (some (.Name x pos')) pos.line X.env = pure false := by rfl) (hf : X.fn x = true ∨ X.env.scope.names.lookup x = some .local := by first | exact .inl rfl | exact .inr rfl | assumption) (fr : Pin.free c.pp i := by exact PM.Pin.free_no) :
    PS X (.Assign [.Name x pos'] e pos) (tS c (asgS i A)) := (ps_set hN hi hx he hs hf).imp fun _ _ _ h => asg_tr fr h
theorem s_setLc {i : Nat} {y : Str} {py : Pos} {elt tg iter : Expr} {ifs : List Expr} {scope : Scope} {own : List (Str × Nat)} {spos : Pos} {A : M (List D)} {g : TG} {T : Tg} {js : List Nat} {G : M Bool} {E : M D} (hc : X.calm = true) (hN : X.N.Nodup) (hy : X.N[i]? = some y) (hyl : X.env.scope.names.lookup y = some .local)
    (hsw : swapsWith (.ListComp elt [⟨tg, iter, ifs, 0⟩] scope pos) (some (.Name y py)) spos.line X.env = pure true) (hi : PI X tg iter (tJ c A)) (ok : BlkOk X.N X.env.scope scope own)
    (hg : ∀ (s : Shared) (H : Hp) (C : Addr) (cl : List (Str × Addr)) (fp : List Addr), PG (X.blk s H scope (compEnvC scope cl C X.env) fp) tg g) (hT : TgOk c.K g T js) (hj : ∀ j ∈ js, j ∈ own.map (·.2))
    (ht : ∀ (s : Shared) (H : Hp) (C : Addr) (cl : List (Str × Addr)) (fp : List Addr), PTs (X.blk s H scope (compEnvC scope cl C X.env) fp) ifs (xT c G))
    (he : ∀ (s : Shared) (H : Hp) (C : Addr) (cl : List (Str × Addr)) (fp : List Addr), PE (X.blk s H scope (compEnvC scope cl C X.env) fp) elt (xF c E)) (hs : ∀ x, foldedSetIterable iter X.env x = pure x := by intro _; rfl) (fr : ∀ j ∈ own.map (·.2), Pin.free c.pp j := by exact fun _ _ => PM.Pin.free_no) (fr2 : Pin.free c.pp i := by exact PM.Pin.free_no) :
    PS X (.Assign [.Name y py] (.ListComp elt [⟨tg, iter, ifs, 0⟩] scope pos) spos) (tS c (asgS i (lcE A T G E (own.map (·.2))))) := by
  refine (ps_setLc hc hN hy hyl hsw hi ok hg ht he hs).imp fun D σ H h => ?_
  have h2 := asg_tr fr2 h
  exact lc_tr hT hj fr h2
theorem s_tg {tg : Expr} {A : M D} {g : TG} {T : Tg} {js : List Nat} (he : PE X e (tF c A)) (hg : PG X tg g) (hT : TgOk c.K g T js) (hs : swapsWithSole [tg] e pos.line X.env = pure false := by rfl) (hw : swappedStores [tg] e X.env = pure none := by rfl)
    (h1 : (assignEach [tg] X.env).map (·.2) = [assign tg X.env] := by rfl) (fr : ∀ j ∈ js, Pin.free c.pp j := by exact fun _ _ => PM.Pin.free_no) : PS X (.Assign [tg] e pos) (tS c (tgS A T)) := by
  refine (ps_asg he hg hs hw h1).imp fun D σ H ⟨F, ρ, S, k⟩ => ⟨F, ρ, S, k.step fun d ρ1 x F1 H1 S1 r1 f1 h1 a1 => ?_⟩
  cases q : T d ρ1 with
  | none => rw [q] at a1; exact a1.elim
  | some ρ2 =>
    rw [q] at a1
    exact hT.run _ _ _ _ _ _ _ d x ρ2 _ fr S1 r1 q fun σ2 T2 _ _ => a1 σ2 F1 H1 T2
theorem s_par {i j : Nat} {x y : Str} {a b : Expr} {R : M (List D)} {px py pt : Pos} {kt k2 pt2} (hc : X.calm = true) (hN : X.N.Nodup) (hi : X.N[i]? = some x) (hj : X.N[j]? = some y) (hij : i ≠ j)
    (hx : X.env.scope.names.lookup x = some .local) (hy : X.env.scope.names.lookup y = some .local) (ha : PA X [a, b] (tFs c R))
    (hw : swappedStores [.Tuple [.Name x px, .Name y py] kt pt] (.Tuple [a, b] k2 pt2) X.env = pure (some [x, y]))
    (hs : swapsWithSole [.Tuple [.Name x px, .Name y py] kt pt] (.Tuple [a, b] k2 pt2) pos.line X.env = pure false := by rfl) (fr : Pin.free c.pp i := by exact PM.Pin.free_no) (fr2 : Pin.free c.pp j := by exact PM.Pin.free_no) :
    PS X (.Assign [.Tuple [.Name x px, .Name y py] kt pt] (.Tuple [a, b] k2 pt2) pos) (tS c (parS i j R)) := by
  refine (ps_par hc hN hi hj hij hx hy ha hw hs).imp fun D σ H ⟨F, ρ, S, k⟩ => ⟨F, ρ, S, k.step fun ds ρ1 xs F1 H1 S1 r1 f1 h1 a1 => ?_⟩
  cases ds with
  | nil => exact a1.elim
  | cons d1 ds =>
    cases ds with
    | nil => exact a1.elim
    | cons d2 ds =>
      cases ds with
      | cons _ _ => exact a1.elim
      | nil =>
        obtain ⟨v, r, rfl, k1, k2⟩ := Reps.inv r1
        obtain ⟨w, r', rfl, k3, k4⟩ := k2.inv
        have k4 := k4.inv0
        subst k4
        exact ⟨v, w, rfl, a1 _ F1 H1 ((S1.setF i k1 fr).setF j k3 fr2)⟩
theorem owned_get {ρ : Env} {j : Nat} (h : owned ρ j = true) : ∃ d, ρ[j]? = some (some (true, d)) := by
  unfold owned at h
  split at h
  · rename_i d e; exact ⟨d, e⟩
  · cases h
theorem s_setL {j : Nat} {x : Str} {i : Expr} {A I : M D} {px ps : Pos} (he : PE X e (tF c A)) (hx : PE X (.Name x px) (tVar j)) (hi : PE X i (tP c I))
    (ha : ∀ v, assign (.Subscript (.Name x px) i ps) X.env v = (do
      let ov ← holding [v] (eval (.Name x px) X.env)
      let iv ← holding [v, ov] (eval i X.env)
      standAt ps
      holding [v, ov, iv] (setItem ov iv v)
      release [v, ov, iv] []) := by intro _; rfl) (hs : swapsWithSole [.Subscript (.Name x px) i ps] e pos.line X.env = pure false := by rfl) (hw : swappedStores [.Subscript (.Name x px) i ps] e X.env = pure none := by rfl)
    (h1 : (assignEach [.Subscript (.Name x px) i ps] X.env).map (·.2) = [assign (.Subscript (.Name x px) i ps) X.env] := by rfl) :
    PS X (.Assign [.Subscript (.Name x px) i ps] e pos) (tS c (setS j A I)) := by
  refine (ps_asg he (pg_sub hx hi set_list ha) hs hw h1).imp fun D σ H ⟨F, ρ, S, k⟩ => ⟨F, ρ, S, k.step fun d ρ1 v F1 H1 S1 r1 f1 h1 a1 => ?_⟩
  by_cases ho : owned ρ1 j = true
  · rw [if_pos ho] at a1
    obtain ⟨d0, e0⟩ := owned_get ho
    obtain ⟨u, e1, p, rfl, _, _, k0⟩ := S1.sl j _ e0
    refine ⟨.ref p, e1, F1, ρ1, S1, a1.step fun i' ρ2 iv F2 H2 S2 r2 f2 h2 a2 => ?_⟩
    split at a2
    · rename_i xs i e2
      split at a2
      · rename_i k hk
        obtain ⟨u', e3, p', ep, _, _, k2⟩ := S2.sl j _ e2
        rw [e1] at e3; cases e3; cases ep
        obtain ⟨us, hu, ru⟩ := k2
        have r2 : iv = .int i := r2
        refine ⟨p, us, i, k, rfl, r2, hu, by rw [← ru.length]; exact hk, ?_⟩
        exact a2 σ F2 _ (S2.upd e2 e1 ⟨_, upd_same, ru.set k (Rep.mono f2 _ _ r1)⟩)
      · exact a2.elim
    · exact a2.elim
  · rw [if_neg ho] at a1
    exact a1.elim
theorem s_app {j : Nat} {x : Str} {A : M D} {px apos cpos : Pos} (hK : c.K = X.K) (hx : PE X (.Name x px) (tVar j)) (he : PE X e (tF c A))
    (hsw : swapsWith (.Call (.Attribute (.Name x px) "append" apos) [e] [] cpos) none pos.line X.env = pure false := by rfl)
    (hbase : attributeBase (.Name x px) "append" X.env (eval (.Name x px) X.env) = eval (.Name x px) X.env := by rfl)
    (hfew : ((backTo cpos (starEach [e] X.env)).all (fun x => !x.1) && (backToKw cpos (keywordEach [] X.env)).all (fun x => x.1.isSome)
      && decide ([e].length + ([] : List Keyword).length + (if ([] : List Keyword).isEmpty then 0 else 1) < 30)) = true := by rfl)
    (hline : (apos.endLine == cpos.line) = true := by rfl) (hs : starEach [e] X.env = (false, eval e X.env) :: starEach [] X.env := by rfl) (hplain : (backTo cpos (starEach [] X.env)).any (·.1) = false := by rfl) :
    PS X (.Expr (.Call (.Attribute (.Name x px) "append" apos) [e] [] cpos) pos) (tS c (appS j A)) := by
  refine (ps_expr (pe_bm PySem.F.plainAttrs_list PySem.F.slot_list_append PySem.F.type_list_append mt_append hx (pa_cons he pa_nil hs) hbase hfew hline hs hplain) hsw).imp fun D σ H ⟨F, ρ, S, k⟩ => ?_
  unfold appS at k
  split at k
  · rename_i ys e0
    obtain ⟨u, e1, p, rfl, _, _, us, hu, ru⟩ := S.sl j _ e0
    refine ⟨.ref p, e1, .inl ⟨rfl, us, .inl (.inl hu)⟩, F, ρ, S, k.step fun d ρ2 v F2 H2 S2 r2 f2 h2 a2 => ?_⟩
    split at a2
    · rename_i xs e2
      split at a2
      · rename_i hz
        obtain ⟨u', e3, p', ep, _, _, us2, hu2, ru2⟩ := S2.sl j _ e2
        rw [e1] at e3; cases e3; cases ep
        refine ⟨p, us2, v, rfl, rfl, hu2, by rw [← ru2.length]; exact hz, ?_⟩
        exact a2 σ F2 _ (S2.upd e2 e1 ⟨_, upd_same, ru2.append (Reps.cons r2 Reps.nil)⟩)
      · exact a2.elim
    · exact a2.elim
  · exact k.elim
/-- x op= e -/
def IpOk (X : Cx) (op : Operator) (r : R2) : Prop := PIp X op r
theorem s_aug {i : Nat} {x : Str} {A : M D} {op : Operator} {f : D → D → Option Slot} {r : R2} (hN : X.N.Nodup) (hi : X.N[i]? = some x) (hx : Loc X.env.scope x) (he : PE X e (tP c A)) (ho : OpR X (inplaceOp op) r) (ok : OpOk c.K f r) (hf : X.fn x = true ∨ X.env.scope.names.lookup x = some .local := by first | exact .inl rfl | exact .inr rfl | assumption) (fr : Pin.free c.pp i := by exact PM.Pin.free_no) :
    PS X (.AugAssign (.Name x pos') op e pos) (tS c (augS i f A)) := by
  refine (ps_aug (ti := r) hN hi hx he (fun pins s σ H x y v u Q I rx ry h => ho pins s σ H x y v u Q I rx ry h) hf).imp fun D σ H ⟨F, ρ, S, k⟩ => ?_
  unfold augS at k
  split at k
  · rename_i o d0 e0
    obtain ⟨v, h1, h2⟩ := S.sl i _ e0
    refine ⟨v, h1, F, ρ, S, k.step fun d ρ2 y F2 H2 S2 r2 f2 g2 a2 => ?_⟩
    cases q : f d0 d with
    | none => rw [q] at a2; exact a2.elim
    | some s =>
      rw [q] at a2
      refine ok F2 H2 d0 d v y s _ S2.fh ((SlR.pk S.fh h2).mono f2 g2) r2 q fun z F3 H3 g3 n3 => ?_
      have w := n3.vr (c := c) S2
      exact a2 _ F3 H3 ((S2.grow g3).set i w.1 w.2 fr)
  · exact k.elim
theorem s_drop {A : M Slot} (he : PE X e (tE c A)) (hs : swapsWith e none pos.line X.env = pure false := by rfl) : PS X (.Expr e pos) (tS c (dropS A)) :=
  (ps_expr he hs).imp fun D σ H ⟨F, ρ, S, k⟩ => ⟨F, ρ, S, k.step fun s ρ1 x F1 H1 S1 r1 f1 h1 a1 => a1 σ F1 H1 S1⟩
theorem s_doc {x j} : PS X (.Expr (.Constant (.str x) j pos) pos') (tS c skip) := ps_doc.imp fun D σ H ⟨F, ρ, S, k⟩ => k σ F H S
theorem s_ret {A : M Slot} (he : PE X e (tE c A)) : PS X (.Return (some e) pos) (tS c (retS A)) :=
  (ps_ret he).imp fun D σ H ⟨F, ρ, S, k⟩ => ⟨F, ρ, S, k.step fun s ρ1 x F1 H1 S1 r1 f1 h1 a1 => a1 x σ ρ1 F1 H1 S1 r1.1⟩
theorem s_retN : PS X (.Return none pos) (tS c retN) := ps_retN.imp fun D σ H ⟨F, ρ, S, k⟩ => k .non σ ρ F H S rfl
theorem s_retV {i : Nat} {x : Str} (h : PE X (.Name x pos') (tVar i)) : PS X (.Return (some (.Name x pos')) pos) (tS c (retV i)) := by
  refine (ps_ret h).imp fun D σ H ⟨F, ρ, S, k⟩ => ?_
  unfold retV at k
  split at k
  · rename_i s e
    obtain ⟨v, h1, h2⟩ := S.sl i _ e
    exact ⟨v, h1, k v σ ρ F H S h2⟩
  · exact k.elim
theorem s_if {t : Expr} {a b : List Stmt} {G : M Bool} (ht : PT X t (tT c G)) (ha : PSs X a (tS c S1)) (hb : PSs X b (tS c S2)) : PS X (.If t a b pos) (tS c (ifS G S1 S2)) := by
  refine (ps_if ht ha hb).imp fun D σ H ⟨F, ρ, S, k⟩ => ⟨F, ρ, S, k.step fun d ρ1 x F1 H1 S1' r1 f1 h1 a1 => ?_⟩
  have r1 : x = d := r1
  subst r1
  cases x with
  | true => exact ⟨F1, ρ1, S1', a1⟩
  | false => exact ⟨F1, ρ1, S1', a1⟩
theorem s_while {t : Expr} {body : List Stmt} {G : M Bool} (n : Nat) (hp : PassesOwn (model X.prog X.w) X.A X.env X.xe) (ht : PT X t (tT c G)) (hb : PSs X body (tS c S1)) : PS X (.While t body [] pos) (tS c (whileF G S1 n)) := by
  refine (ps_while hp ht hb).imp fun D σ H h => ⟨fun m σ H => tS c (whileF G S1 m) D σ H, ⟨n, h⟩, fun m σ H ⟨F, ρ, S, k⟩ => ?_⟩
  cases m with
  | zero => exact k.elim
  | succ m =>
    unfold whileF at k
    refine ⟨F, ρ, S, ?_⟩
    cases q : G ρ with
    | bad => rw [q] at k; exact k.elim
    | exc x ρ1 =>
      rw [q] at k
      exact fun F' H' cls d S' x => k σ F' H' cls d S' x
    | ok b ρ1 =>
      rw [q] at k
      intro b' F1 H1 S1' f1 h1 eb
      have eb : b' = b := eb
      subst eb
      cases b' with
      | false =>
        rw [if_neg Bool.false_ne_true]
        exact k σ F1 H1 S1'
      | true =>
        rw [if_pos rfl]
        dsimp only at k
        refine ⟨fun σ' H' => tS c (whileF G S1 m) D σ' H', fun σ' H' n => ⟨m, Nat.lt_succ_self m, n⟩, F1, ρ1, S1', ?_⟩
        cases q2 : S1 ρ1 with
        | nx ρ2 => rw [q2] at k; exact fun σ2 F2 H2 S2 => ⟨F2, ρ2, S2, k⟩
        | ct ρ2 => rw [q2] at k; exact fun σ2 F2 H2 S2 => ⟨F2, ρ2, S2, k⟩
        | bk ρ2 => rw [q2] at k; exact k
        | rt s => rw [q2] at k; exact k
        | exc x ρ2 => rw [q2] at k; exact k
        | bad => rw [q2] at k; exact k
/-- the data of an elder state are kept: F0 is raised -/
theorem SR.raise {K : Fr} {B F0 F H F1 : Hp} {σ : L2.St} {ρ : Env} (S : SR pp K B F0 F H σ ρ) (f0 : Sub F0 F1) (f : Sub F1 F) : SR pp K B F1 F H σ ρ := ⟨S.bh, S.fh, f, fun a o e => by
  rcases S.new a o e with z | z
  · exact .inl (f0 a o z)
  · exact .inr z, S.len, S.sl, S.sep, S.pk⟩
theorem SR.lower {K : Fr} {B F0 F H F1 : Hp} {σ : L2.St} {ρ : Env} (S : SR pp K B F1 F H σ ρ) (f0 : Sub F0 F1) (n : ∀ a o, F1 a = some o → F0 a = some o ∨ B a = none) : SR pp K B F0 F H σ ρ := ⟨S.bh, S.fh, f0.trans S.f0, fun a o e => by
  rcases S.new a o e with z | z
  · exact n a o z
  · exact .inr z, S.len, S.sl, S.sep, S.pk⟩
abbrev cF (c : Ct) (F0 : Hp) : Ct := { c with F0 := F0 }
theorem s_for {tg iter : Expr} {body : List Stmt} {A : M (List D)} {g : TG} {T : Tg} {js : List Nat} (hp : PassesOwn (model X.prog X.w) X.A X.env X.xe) (hc : X.calm = true) (hi : PI X tg iter (tK c A)) (hg : PG X tg g) (hT : TgOk c.K g T js) (hb : ∀ F0, PSs X body (tS (cF c F0) S1))
    (hs : ∀ x, foldedSetIterable iter X.env x = pure x := by intro _; rfl) (fr : ∀ j ∈ js, Pin.free c.pp j := by exact fun _ _ => PM.Pin.free_no) : PS X (.For tg iter body [] pos) (tS c (forS A T S1)) := by
  have hb' : PSs X body (fun D σ H => ∃ F0, tS (cF c F0) S1 D σ H) := ⟨fun pins s σ H D I ⟨F0, hw⟩ => (hb F0).run pins s σ H D I hw⟩
  refine (ps_for hp hc hi hg hb' hs).imp fun D σ H ⟨F, ρ, S, k⟩ => ⟨F, ρ, S, k.step fun ds ρ1 J F1 H1 S1' r1 f1 h1 a1 => ?_⟩
  have r1 : JOk c.K F1 F1 J ds := r1
  refine ⟨fun i m σ' H' => m = ds.length - i ∧ i ≤ ds.length ∧ ∃ F' ρ', Sub F1 F' ∧ SRc c F' H' σ' ρ' ∧ SAft c (forF T S1 (ds.drop i) ρ') D, ⟨ds.length, rfl, Nat.zero_le _, F1, ρ1, Sub.refl _, S1', a1⟩, ?_⟩
  rintro i m σ' H' ⟨rfl, hi, F', ρ', f', S', k'⟩
  rcases Nat.lt_or_ge i ds.length with hlt | hge
  · refine .inr ⟨r1.go i H' (f'.trans S'.fh) hlt, fun σ2 H2 => ∃ F2 ρ2, Sub F1 F2 ∧ SRc c F2 H2 σ2 ρ2 ∧ SAft c (forF T S1 (ds.drop (i + 1)) ρ2) D, fun σ2 H2 hx => ⟨ds.length - (i + 1), by omega, rfl, by omega, hx⟩, fun x H2 y => ?_⟩
    obtain ⟨F2, d, g2, hd, rd⟩ := r1.yld i F' H' x H2 (f'.trans S'.fh) f' S'.fh hlt y
    have S2 := S'.grow g2
    have edrop : ds.drop i = d :: ds.drop (i + 1) := by
      rw [List.drop_eq_getElem_cons hlt]
      have : ds[i] = d := by
        rw [List.getElem?_eq_getElem hlt] at hd
        exact Option.some.inj hd
      rw [this]
    rw [edrop] at k'
    unfold forF at k'
    cases hTd : T d ρ' with
    | none => rw [hTd] at k'; exact k'.elim
    | some ρ2 =>
      rw [hTd] at k'
      dsimp only at k'
      refine hT.run _ _ _ _ _ _ _ d x ρ2 _ fr S2 rd hTd fun σ3 T3 _ _ => ?_
      have f3 : Sub F1 F2 := f'.trans g2.f
      refine ⟨F1, F2, ρ2, T3.raise S1'.f0 f3, ?_⟩
      have low : ∀ {σ4 : L2.St} {F4 H4 : Hp} {ρ4 : Env}, SRc (cF c F1) F4 H4 σ4 ρ4 → SRc c F4 H4 σ4 ρ4 := fun {σ4 F4 H4 ρ4} S4 => SR.lower (F1 := F1) S4 S1'.f0 S1'.new
      cases q2 : S1 ρ2 with
      | nx ρ3 => rw [q2] at k'; exact fun σ4 F4 H4 S4 => ⟨F4, ρ3, S4.f0, low S4, k'⟩
      | ct ρ3 => rw [q2] at k'; exact fun σ4 F4 H4 S4 => ⟨F4, ρ3, S4.f0, low S4, k'⟩
      | bk ρ3 => rw [q2] at k'; exact fun σ4 F4 H4 S4 => k' σ4 F4 H4 (low S4)
      | rt s => rw [q2] at k'; exact fun v σ4 ρ4 F4 H4 S4 r4 => k' v σ4 ρ4 F4 H4 (low S4) r4
      | exc x ρ3 => rw [q2] at k'; exact fun σ4 F4 H4 cls d S4 x4 => k' σ4 F4 H4 cls d (low S4) x4
      | bad => rw [q2] at k'; exact k'
  · refine .inl ⟨r1.stop i H' (f'.trans S'.fh) hge, ?_⟩
    have e0 : ds.drop i = [] := List.drop_eq_nil_of_le hge
    rw [e0] at k'
    exact k' σ' F' H' S'
end

/-! ### a def -/
def initE (N : Nat) (ds : List D) : Env := ds.map (fun d => some (false, d)) ++ List.replicate (N - ds.length) none
def runF (N n : Nat) (S : SM) : FM := fun ds => if ds.length = n then (match S (initE N ds) with
  | .nx _ => .ok (false, .non)
  | .rt s => .ok s
  | .exc e _ => .exc e
  | _ => .bad) else .bad
theorem runF_len {N n : Nat} {S : SM} (ds : List D) (h : runF N n S ds ≠ .bad) : ds.length = n := by
  unfold runF at h
  by_cases e : ds.length = n
  · exact e
  · rw [if_neg e] at h; exact absurd rfl h
theorem start_ok {K : Fr} {F H : Hp} {N : List Str} {ds : List D} {vs : List V} (fh : Sub F H) (r : Reps K F ds vs) (hl : vs.length ≤ N.length) : SR none K H F F H (L2.start N vs) (initE N.length ds) where
  pk := Pin.ok_no
  bh := Sub.refl _
  fh := fh
  f0 := Sub.refl _
  new := fun a o e => .inl e
  len := by
    unfold L2.start initE
    rw [List.length_append, List.length_append, List.length_map, List.length_map, List.length_replicate, List.length_replicate, r.length]
  sl := fun i s e => by
    unfold initE at e
    unfold L2.start
    by_cases hi : i < ds.length
    · rw [List.getElem?_append_left (by simpa using hi), List.getElem?_map, List.getElem?_eq_getElem hi] at e
      have e : (false, ds[i]) = s := by simpa using e
      subst e
      obtain ⟨v, h1, h2⟩ := r.get (List.getElem?_eq_getElem hi)
      refine ⟨v, ?_, h2⟩
      rw [List.getElem?_append_left (by rw [List.length_map, ← r.length]; exact hi), List.getElem?_map, h1]
      rfl
    · rw [List.getElem?_append_right (by simpa using hi), List.getElem?_replicate] at e
      split at e <;> cases e
  sep := fun i j p di dj e _ _ _ => by
    unfold initE at e
    by_cases hi : i < ds.length
    · rw [List.getElem?_append_left (by simpa using hi), List.getElem?_map, List.getElem?_eq_getElem hi] at e
      cases e
    · rw [List.getElem?_append_right (by simpa using hi), List.getElem?_replicate] at e
      split at e <;> cases e
section
variable {P : Program} {w : World} {K : Fr} {mg : Str → Option Value} {base : Heap}
/-- a def keeps its promise -/
theorem ok_fun {x qual : Str} {s : Stmt} {f : Addr} {fd : FuncData} {N ps : List Str} {k : Nat} {S : SM} (F : Fun K x qual s f fd) (Sc : FnScope N ps (defScope s)) (hl : ps.length ≤ N.length)
    (hbody : ∀ (cdv : Value) (A : Around) (outer : List PySem.Env) (s0 : Shared) (H : Hp) (E : XK), Room k (A.deeper (envOfC qual (defScope s) s0.heap.objs.size f cdv)) → ∀ B F0,
      PSs (cxOf (CX P w) P w K mg base N qual (defScope s) f cdv A outer s0 H E) (defBody s) (tS ⟨K, mg, B, F0, fun cls d _ H => E cls d H, none⟩ S)) :
    FnOk P w K mg base (CX P w) (k + 1) f fd ps (spF K mg (runF N.length ps.length S) ps.length) := by
  refine F.okX Sc (fun vs H Q E h => h.1) (fun cdv A outer s0 H vs Q E hr h => ?_)
  obtain ⟨hvl, F0, ds, fh, r, h⟩ := h
  refine ⟨_, hbody cdv A outer s0 H E hr H F0, F0, _, start_ok fh r (by rw [hvl]; exact hl), ?_⟩
  have hdl : ds.length = ps.length := by rw [r.length, hvl]
  unfold runF at h
  rw [if_pos hdl] at h
  have gr : ∀ {F' H' : Hp} {σ' : L2.St} {ρ' : Env}, SR none K H F0 F' H' σ' ρ' → Grow F0 H F' H' := fun {F' H' σ' ρ'} S' => ⟨S'.f0, S'.bh, S'.fh, S'.new⟩
  cases q : S (initE N.length ds) with
  | nx ρ' => rw [q] at h; exact fun σ' F' H' S' => h .non F' H' (gr S') rfl
  | rt s =>
    rw [q] at h
    intro v σ' ρ' F' H' S' r'
    refine h v F' H' (gr S') ?_
    obtain ⟨o, d⟩ := s
    cases o with
    | false => exact r'
    | true =>
      obtain ⟨a, rfl, fa, ba, k⟩ := r'
      exact ⟨a, rfl, ba, fa, k⟩
  | exc x ρ' => rw [q] at h; exact fun σ' F' H' cls d S' x' => h F' H' cls d (gr S') x'
  | bk ρ' => rw [q] at h; exact h.elim
  | ct ρ' => rw [q] at h; exact h.elim
  | bad => rw [q] at h; exact h.elim
end
end PM
namespace PM
open PySem L2 PyProof.Rows

/-! ### methods of texts -/
section
variable {X : Cx} {c : Ct} {e o : Expr} {es : List Expr} {apos cpos : Pos} {id : String} {name : Str} {r : V → List V → Hp → VK → Prop}
def smE (f : List Nat → List D → Option Slot) (A : M D) (R : M (List D)) : M Slot := A.bind fun d => match d with
  | .str a => R.bind fun ds => M.lift (f a ds)
  | _ => fun _ => .bad
def SmOk (K : Fr) (f : List Nat → List D → Option Slot) (r : V → List V → Hp → VK → Prop) : Prop := ∀ (F H : Hp) (a : List Nat) (ds : List D) (xs : List V) (s : Slot) (Q : VK), Sub F H → PkRs K F H ds xs → f a ds = some s →
  (∀ v F' H', Grow F H F' H' → VN K H F' H' s v → Q v H') → r (.str (st a)) xs H Q
theorem e_sm {f : List Nat → List D → Option Slot} {A : M D} {R : M (List D)} (slot : PySem.Slot "str" name id) (hty : typeOf (.builtin id) = pure (.type "method_descriptor")) (hm : MtR X id r) (ok : SmOk c.K f r) (ho : PE X o (tP c A)) (ha : PA X (e :: es) (tPs c R))
    (hbase : attributeBase o name X.env (eval o X.env) = eval o X.env := by rfl)
    (hfew : ((backTo cpos (starEach (e :: es) X.env)).all (fun x => !x.1) && (backToKw cpos (keywordEach [] X.env)).all (fun x => x.1.isSome)
      && decide ((e :: es).length + ([] : List Keyword).length + (if ([] : List Keyword).isEmpty then 0 else 1) < 30)) = true := by rfl)
    (hline : (apos.endLine == cpos.line) = true := by rfl) (hs : starEach (e :: es) X.env = (false, eval e X.env) :: starEach es X.env := by rfl) (hplain : (backTo cpos (starEach es X.env)).any (·.1) = false := by rfl) :
    PE X (.Call (.Attribute o name apos) (e :: es) [] cpos) (tE c (smE f A R)) := by
  refine (pe_bm F.plainAttrs_str slot hty hm ho ha hbase hfew hline hs hplain).imp fun σ H Q ⟨F, ρ, S, k⟩ => ⟨F, ρ, S, k.step fun d ρ1 x F1 H1 S1 r1 f1 h1 a1 => ?_⟩
  split at a1
  · rename_i a
    have r1 : x = .str (st a) := r1
    subst r1
    refine ⟨rfl, F1, ρ1, S1, a1.step fun ds ρ2 xs F2 H2 S2 r2 f2 h2 a2 => ?_⟩
    obtain ⟨s, e, k⟩ := a2.lift S2
    exact ok F2 H2 a ds xs s Q S2.fh r2 e k
  · exact a1.elim
end
def joinL (a : List Nat) : List (List Nat) → List Nat
  | [] => []
  | y :: ys => y ++ (ys.map fun z => a ++ z).flatten
def strsD : List D → Option (List (List Nat))
  | [] => some []
  | .str s :: r => (strsD r).map fun q => s :: q
  | _ => none
def joinD : List Nat → List D → Option Slot
  | a, [.lst xs] => (strsD xs).bind fun ys => if (ys.map (·.length)).sum + ys.length * a.length ≤ 16777216 then some (false, .str (joinL a ys)) else none
  | a, [.tup xs] => (strsD xs).bind fun ys => if (ys.map (·.length)).sum + ys.length * a.length ≤ 16777216 then some (false, .str (joinL a ys)) else none
  | _, _ => none
section
variable {K : Fr} {F H : Hp}
theorem strsD_reps : ∀ {xs : List D} {vs : List V} {ys : List (List Nat)}, Reps K F xs vs → strsD xs = some ys → vs = (ys.map st).map V.str
  | [], vs, ys, r, e => by cases e; exact r.inv0
  | d :: xs, vs, ys, r, e => by
    cases d with
    | str s =>
      obtain ⟨v, w, rfl, r1, r2⟩ := r.inv
      unfold strsD at e
      cases q : strsD xs with
      | none => rw [q] at e; cases e
      | some zs =>
        rw [q] at e
        cases e
        have r1 : v = .str (st s) := r1
        rw [r1, strsD_reps r2 q]
        rfl
    | _ => cases e
theorem glue_fold (a : List Nat) : ∀ (ys : List (List Nat)) (acc : List Nat), ((ys.map st).foldl (fun acc p => acc ++ (st a).cps ++ p.cps) acc.toArray) = (acc ++ (ys.map fun z => a ++ z).flatten).toArray
  | [], acc => by simp
  | y :: ys, acc => by
    rw [List.map_cons, List.foldl_cons, show acc.toArray ++ (st a).cps ++ (st y).cps = (acc ++ a ++ y).toArray by simp [st], glue_fold a ys]
    simp
theorem join_st (a : List Nat) : ∀ ys : List (List Nat), Txt.join (st a) (ys.map st) = st (joinL a ys)
  | [] => rfl
  | y :: ys => by
    show Str.mk _ = Str.mk _
    have := glue_fold a ys y
    simp only [List.map_cons, List.drop_succ_cons, List.drop_zero, List.headD_cons]
    have t2 : List.foldl (fun acc p => acc ++ a.toArray ++ p.cps) y.toArray (List.map st ys) = (y ++ (List.map (fun z => a ++ z) ys).flatten).toArray := this
    rw [t2]
    rfl
def rJoin (K : Fr) : V → List V → Hp → VK → Prop := fun x xs H Q => ∃ a p, ∃ ys : List Str, x = .str a ∧ xs = [.ref p] ∧ (SqL K H p (ys.map V.str) ∨ SqT K H p (ys.map V.str)) ∧
    (ys.map (·.length)).sum + ys.length * a.length ≤ 16777216 ∧ Q (.str (Txt.join a ys)) H
theorem sum_st : ∀ ys : List (List Nat), ((ys.map st).map (·.length)).sum = (ys.map (·.length)).sum
  | [] => rfl
  | y :: ys => by
    rw [List.map_cons, List.map_cons, List.sum_cons, sum_st ys, List.map_cons, List.sum_cons]
    simp [st, Str.length]
theorem ok_join : SmOk K joinD (rJoin K) := by
  intro F H a ds xs s Q fh r e k
  have fin : ∀ ys : List (List Nat), (ys.map (·.length)).sum + ys.length * a.length ≤ 16777216 → ((ys.map st).map (·.length)).sum + (ys.map st).length * (st a).length ≤ 16777216 := fun ys h => by
    rw [sum_st, List.length_map]
    simpa [st, Str.length] using h
  unfold joinD at e
  split at e
  · rename_i xs
    cases q : strsD xs with
    | none => rw [q] at e; cases e
    | some ys =>
      rw [q] at e
      dsimp only [Option.bind] at e
      split at e
      · rename_i hz
        cases e
        obtain ⟨x, rfl, b, vs, rfl, h1, k1⟩ := r.one
        have := strsD_reps k1 q
        subst this
        exact ⟨_, b, ys.map st, rfl, rfl, .inl (.inl h1), fin ys hz, by rw [join_st]; exact vnS fh k⟩
      · cases e
  · rename_i xs
    cases q : strsD xs with
    | none => rw [q] at e; cases e
    | some ys =>
      rw [q] at e
      dsimp only [Option.bind] at e
      split at e
      · rename_i hz
        cases e
        obtain ⟨x, rfl, r1⟩ := r.one
        obtain ⟨b, vs, rfl, h1, k1⟩ := pkTup r1
        have := strsD_reps k1 q
        subst this
        exact ⟨_, b, ys.map st, rfl, rfl, .inr (fh.sqT h1), fin ys hz, by rw [join_st]; exact vnS fh k⟩
      · cases e
  · cases e
theorem op_join {X : Cx} : MtR X "str.join" (rJoin X.K) := mt_join
/-- x.rjust(n, c) -/
def rjustD : List Nat → List D → Option Slot
  | a, [.int n, .str [f]] => if -1048576 ≤ n ∧ n ≤ 16777216 then some (false, .str (List.replicate (n.toNat - a.length) f ++ a)) else none
  | _, _ => none
def rRjust : V → List V → Hp → VK → Prop := fun x xs H Q => ∃ a n f, x = .str (st a) ∧ xs = [.int n, .str (st [f])] ∧ -1048576 ≤ n ∧ n ≤ 16777216 ∧ Q (.str (st (List.replicate (n.toNat - a.length) f ++ a))) H
theorem st_list {x : Str} {l : List Nat} (h : x.cps.toList = l) : x = st l := by
  cases x with
  | mk c =>
    subst h
    simp [st]
theorem op_rjust {X : Cx} : MtR X "str.rjust" rRjust := by
  intro pins s σ H x xs v us Q I rx rs h
  obtain ⟨a, n, f, rfl, rfl, h1, h2, h⟩ := h
  obtain ⟨t, rfl⟩ := rx
  cases rs with
  | cons r1 rs =>
    cases rs with
    | cons r2 rs =>
      cases rs
      obtain ⟨u, rfl⟩ := r1
      obtain ⟨z, rfl⟩ := r2
      refine rjust_fill ?_ rfl fun t' k => ⟨.str (st (List.replicate (n.toNat - a.length) f ++ a)), H, I.tok k, ⟨t', ?_⟩, h⟩
      · unfold PadOk
        have e1 : fitsSsize n = true := by unfold fitsSsize; simp; omega
        have e2 : Builtin.Str.tooLong n.toNat = false := by unfold Builtin.Str.tooLong; simp [sizeLine]; omega
        rw [e1, e2]; rfl
      · rw [st_list (rjustF_list _ _ _)]
        rfl
theorem ok_rjust : SmOk K rjustD rRjust := by
  intro F H a ds xs s Q fh r e k
  unfold rjustD at e
  split at e
  · split at e
    · cases e
      rename_i hz
      obtain ⟨x, y, rfl, r1, r2⟩ := r.two
      have r1 : x = .int _ := r1
      have r2 : y = .str _ := r2
      subst r1; subst r2
      exact ⟨_, _, _, rfl, rfl, hz.1, hz.2, vnS fh k⟩
    · cases e
  · cases e
end
/-! ### xs[i] op= e of an owned list -/
def augIxS (j : Nat) (I : M D) (f : D → D → Option Slot) (A : M D) : SM := fun ρ => if owned ρ j then (I.thenS fun i ρ1 => match ρ1[j]?, i with
  | some (some (true, .lst xs)), .int i => (match L2.atI xs i with
    | some d0 => (A.thenS fun d ρ2 => match f d0 d with
      | some (false, z) => (match ρ2[j]? with
        | some (some (true, .lst ys)) => (match ixN ys.length i with
          | some k => .nx (ρ2.set j (some (true, .lst (ys.set k z))))
          | none => .bad)
        | _ => .bad)
      | _ => .bad) ρ1
    | none => .bad)
  | _, _ => .bad) ρ else .bad
section
variable {X : Cx} {c : Ct} {e : Expr} {pos : Pos}
theorem get_lst : PGet X (rIxL X.K) := by
  intro pins s σ H x y v u Q I rx ry h
  obtain ⟨p, xs, i, z, rfl, rfl, hq, he, q⟩ := h
  cases rx
  obtain ⟨t, rfl⟩ := ry
  obtain ⟨its, r, pl, hz⟩ := I.list hq
  obtain ⟨j, h1, h2, h3, h4, h5⟩ := atI_get he
  obtain ⟨w, ew, rw'⟩ := r.get h2
  have hl := r.length
  have hn := line63
  have fin : EP X pins σ Q w s := ⟨z, H, I, rw', q⟩
  by_cases h0 : 0 ≤ i
  · have hj : i.toNat = j := by
      rw [seqIndex_of h0 h5] at h1
      exact Option.some.inj h1
    exact wpAny_getItem_list pl.isList h0 (by omega) (by rw [hj]; simpa using ew) fin
  · have hj : (i + (its.toArray.size : Int)).toNat = j := by
      rw [seqIndex_neg (by omega) h4] at h1
      rw [List.size_toArray, ← hl]
      exact Option.some.inj h1
    exact wpAny_getItem_list_neg pl.isList (by omega) (by rw [List.size_toArray]; omega) (by omega) (by rw [hj]; simpa using ew) fin
theorem s_augIx {j : Nat} {x : Str} {i : Expr} {I A : M D} {px tpos : Pos} {op : Operator} {f : D → D → Option Slot} {r : R2} (hk : c.K = X.K) (hx : PE X (.Name x px) (tVar j)) (hi : PE X i (tP c I)) (he : PE X e (tP c A)) (ho : OpR X (inplaceOp op) r) (ok : OpOk c.K f r)
    (ha : ∀ ov iv new, augStore i ov iv new = (do holding [new, ov, iv] (setItem ov iv new); release [new, ov, iv] []; pure .next) := by intros; rfl) :
    PS X (.AugAssign (.Subscript (.Name x px) i tpos) op e pos) (tS c (augIxS j I f A)) := by
  refine (ps_augS hx hi get_lst he (tip := r) (fun pins s σ H x y v u Q I rx ry h => ho pins s σ H x y v u Q I rx ry h) set_list ha).imp fun D σ H ⟨F, ρ, S, k⟩ => ?_
  unfold augIxS at k
  split at k
  · rename_i hw
    obtain ⟨d0, e0⟩ := owned_get hw
    obtain ⟨u, e1, p, rfl, _, _, k0⟩ := S.sl j _ e0
    refine ⟨.ref p, e1, F, ρ, S, k.step fun i' ρ1 iv F1 H1 S1 r1 f1 h1 a1 => ?_⟩
    split at a1
    · rename_i xs i e2
      split at a1
      · rename_i d0 hd
        obtain ⟨u', e3, p', ep, _, _, k1⟩ := S1.sl j _ e2
        rw [e1] at e3; cases e3; cases ep
        obtain ⟨us, hu, ru⟩ := k1
        have r1 : iv = .int i := r1
        obtain ⟨v0, hv0, rv0⟩ := ru.atI hd
        refine ⟨p, us, i, v0, rfl, r1, .inl (.inl hu), hv0, F1, ρ1, S1, a1.step fun d ρ2 y F2 H2 S2 r2 f2 h2 a2 => ?_⟩
        split at a2
        · rename_i z hz
          refine ok F2 H2 d0 d v0 y _ _ S2.fh (Rep.pk S2.fh (Rep.mono f2 _ _ rv0)) r2 hz fun zv F3 H3 g3 n3 => ?_
          have S3 := S2.grow g3
          split at a2
          · rename_i ys e4
            split at a2
            · rename_i k hk2
              obtain ⟨u', e5, p', ep, _, _, k2⟩ := S3.sl j _ e4
              rw [e1] at e5; cases e5; cases ep
              obtain ⟨us2, hu2, ru2⟩ := k2
              refine ⟨p, us2, i, k, rfl, r1, hu2, by rw [← ru2.length]; exact hk2, ?_⟩
              exact a2 σ F3 _ (S3.upd e4 e1 ⟨_, upd_same, ru2.set k n3⟩)
            · exact a2.elim
          · exact a2.elim
        · exact a2.elim
      · exact a1.elim
    · exact a1.elim
  · exact k.elim
end
/-! ### a chain of two comparisons -/
def chn (f f' : D → D → Option Slot) (A1 A2 A3 : M D) : M Slot := A1.bind fun d1 => A2.bind fun d2 => (M.lift (f d1 d2)).bind fun s => match s with
  | (false, .bl true) => A3.bind fun d3 => M.lift (f' d2 d3)
  | (false, .bl false) => ret (false, .bl false)
  | _ => fun _ => .bad
section
variable {X : Cx} {c : Ct} {a b e : Expr} {pos : Pos}
theorem chn_tr {f f' : D → D → Option Slot} {r r' : R2} {A1 A2 A3 : M D} (ok : OpOk c.K f r) (ok' : OpOk c.K f' r') {σ : L2.St} {H : Hp} {Q : VK} (h : tE c (chn f f' A1 A2 A3) σ H Q) : tChain r r' (tP c A1) (tP c A2) (tP c A3) σ H Q := by
  obtain ⟨F, ρ, S, k⟩ := h
  refine ⟨F, ρ, S, k.step fun d1 ρ1 x F1 H1 S1 r1 f1 h1 a1 => ⟨F1, ρ1, S1, a1.step fun d2 ρ2 y F2 H2 S2 r2 f2 h2 a2 => ?_⟩⟩
  unfold M.bind M.lift at a2
  cases q : f d1 d2 with
  | none => rw [q] at a2; exact a2.elim
  | some s =>
    rw [q] at a2
    dsimp only at a2
    refine ok F2 H2 d1 d2 x y s _ S2.fh (r1.mono f2 h2) r2 q fun z F3 H3 g3 n3 => ?_
    have S3 := S2.grow g3
    have a3 := Aft.up a2 g3.f g3.h
    split at a3
    · have n3 : z = .bl true := n3
      refine ⟨true, n3, ?_⟩
      rw [if_pos rfl]
      refine ⟨F3, ρ2, S3, Aft.step (f := fun d3 => M.lift (f' d2 d3)) a3 fun d3 ρ3 w F4 H4 S4 r4 f4 h4 a4 => ?_⟩
      obtain ⟨s, e, k⟩ := a4.lift S4
      exact ok' F4 H4 d2 d3 y w s Q S4.fh (r2.mono (g3.f.trans f4) (g3.h.trans h4)) r4 e k
    · have n3 : z = .bl false := n3
      refine ⟨false, n3, ?_⟩
      rw [if_neg Bool.false_ne_true]
      exact a3 _ F3 H3 S3 (Sub.refl _) (Sub.refl _) ⟨rfl, fun z => by cases z⟩
    · exact a3.elim
theorem e_chn {op op' : CmpOp} {f f' : D → D → Option Slot} {r r' : R2} {A1 A2 A3 : M D} (ho : OpR X (compareOp op) r) (ho' : OpR X (compareOp op') r') (ok : OpOk c.K f r) (ok' : OpOk c.K f' r') (ha : PE X a (tP c A1)) (hb : PE X b (tP c A2)) (he : PE X e (tP c A3))
    (hm : lastMarks [op, op'] [b, e] = false := by with_unfolding_all rfl) : PE X (.Compare a [op, op'] [b, e] pos) (tE c (chn f f' A1 A2 A3)) := (pe_chain ho ho' ha hb he hm).imp fun _ _ _ h => chn_tr ok ok' h
theorem t_chn {op op' : CmpOp} {f f' : D → D → Option Slot} {r r' : R2} {A1 A2 A3 : M D} (ho : OpR X (compareOp op) r) (ho' : OpR X (compareOp op') r') (ok : OpOk c.K f r) (ok' : OpOk c.K f' r') (ha : PE X a (tP c A1)) (hb : PE X b (tP c A2)) (he : PE X e (tP c A3))
    (hm : lastMarks [op, op'] [b, e] = false := by with_unfolding_all rfl) : PT X (.Compare a [op, op'] [b, e] pos) (tT c (asB (chn f f' A1 A2 A3))) := by
  refine (pt_chain ho ho' ha hb he hm).imp fun σ H Q h => ?_
  obtain ⟨F, ρ, S, k⟩ := asB_tr h
  exact chn_tr ok ok' ⟨F, ρ, S, k⟩
/-- - -/
def una (f : D → Option Slot) (A : M D) : M Slot := A.bind fun d => M.lift (f d)
def negD : D → Option Slot
  | .int i => some (false, .int (-i))
  | _ => none
theorem e_neg {A : M D} (ha : PE X a (tP c A)) : PE X (.UnaryOp .USub a pos) (tE c (una negD A)) := by
  refine (pe_un un_neg ha).imp fun σ H Q ⟨F, ρ, S, k⟩ => ⟨F, ρ, S, k.step fun d ρ1 x F1 H1 S1 r1 f1 h1 a1 => ?_⟩
  obtain ⟨s, e, k⟩ := a1.lift S1
  unfold negD at e
  split at e
  · cases e
    exact ⟨_, r1, vnI S1.fh k⟩
  · cases e
end

/-! ### op= -/
def addIA : D → D → Option Slot
  | .int i, .int j => some (false, .int (i + j))
  | .str s, .str t => if s.length + t.length ≤ sizeLine then some (false, .str (s ++ t)) else none
  | _, _ => none
def rAddIA : R2 := fun x y H Q => rAddI x y H Q ∨ rAddS x y H Q
theorem iop_addA {X : Cx} : OpR X (inplaceOp .Add) rAddIA := OpR.or (r := rAddI) iop_add (r' := rAddS) iop_add_str
def mulID : D → D → Option Slot
  | .int i, .int j => if (-(2 ^ 64) < i ∧ i < 2 ^ 64) ∨ (-(2 ^ 64) < j ∧ j < 2 ^ 64) then some (false, .int (i * j)) else none
  | _, _ => none
theorem iop_mulI {X : Cx} : OpR X (inplaceOp .Mult) (rI CMul fun i j => .int (i * j)) := iop_mul
section
variable {K : Fr}
theorem ok_addI : OpOk K addIA rAddIA := by
  intro F H d1 d2 x y s Q fh r1 r2 e k
  unfold addIA at e
  split at e
  · cases e
    exact .inl ⟨_, _, r1, r2, vnI fh k⟩
  · split at e
    · cases e
      rename_i s t hz
      exact .inr ⟨_, _, r1, r2, hz, by rw [st_app]; exact vnS fh k⟩
    · cases e
  · cases e
theorem ok_mulI : OpOk K mulID (rI CMul fun i j => .int (i * j)) := by
  intro F H d1 d2 x y s Q fh r1 r2 e k
  unfold mulID at e
  split at e
  · split at e
    · cases e
      rename_i hm
      exact ⟨_, _, r1, r2, hm, vnI fh k⟩
    · cases e
  · cases e
end
end PM
namespace PM
open PySem L2 PyProof.Rows

/-! ### module constants; calls in a comprehension -/
section
variable {X : Cx} {c : Ct} {x : Str} {pos : Pos}
theorem e_gint {i : Int} (hg : Gl X x) (hm : ∃ t, X.mg x = some (.int i t)) (hd : (x == ("__debug__" : Str)) = false := by decide) : PE X (.Name x pos) (tE c (cst (.int i))) := by
  obtain ⟨t, hm⟩ := hm
  exact e_cst (pe_glob (v := .int i) hg hm ⟨t, rfl⟩ hd) fun _ => rfl
theorem e_gstr {z : Str} {s : List Nat} (hg : Gl X x) (hm : ∃ t, X.mg x = some (.str z t)) (hz : z = st s := by rfl) (hd : (x == ("__debug__" : Str)) = false := by decide) : PE X (.Name x pos) (tE c (cst (.str s))) := by
  obtain ⟨t, hm⟩ := hm
  exact e_cst (pe_glob (v := .str z) hg hm ⟨t, rfl⟩ hd) fun _ => by rw [hz]; rfl
theorem tkB {X : Cx} : Takes X (fun _ _ _ _ => False) := fun _ _ ⟨_, _, _, _, _, _, _, _, _, _, _, _, _, _, _, _, w⟩ => w.elim
/-- pure of test: a statement that is left out -/
def fuel : Nat := 1000000
end

/-! ### the end -/
def CXU (P : Program) : CXT := fun outer H s E e s' => ∃ w, L2.CX P w outer H s E e s'
theorem cxu {P : Program} {w : World} {K : Fr} {mg : Str → Option Value} {base : Heap} {k : Nat} {f : Addr} {fd : FuncData} {ps : List Str} {sp : Sp} (G : FnOk P w K mg base (L2.CX P w) k f fd ps sp) : FnOk P w K mg base (CXU P) k f fd ps sp :=
  ⟨G.len, fun A outer s H args us vs Q E hr he hb hv hs => codeAny_mono (G.run A outer s H args us vs Q E hr he hb hv hs) fun r s' h => by
    cases r with
    | error e => exact ⟨w, h⟩
    | ok fl => cases fl <;> exact h⟩
theorem cxu_no {P : Program} (H : Hp) (s : Shared) (e : Value) (s' : Shared) (h : CXU P [] H s (fun _ _ _ => False) e s') : False := by
  obtain ⟨w, a, B, H', cls, d, h⟩ := h
  exact h.2.2.2.2.2.2.2
def isLst (o : Obj) : Bool := match o.cls with
  | .type n => n == "list"
  | _ => false
/-- no list among the known objects -/
def noLst (K : PySem.W.Frag) : Bool := K.all fun p => !isLst p.2
theorem noLst_ok {K : PySem.W.Frag} (h : noLst K = true) {a : Addr} {o : Obj} (e : K.lookup a = some o) (c : o.cls = .type "list") : False := by
  have m : ∃ p ∈ K, p.2 = o := by
    clear h
    induction K with
    | nil => cases e
    | cons p K ih =>
      rw [List.lookup_cons] at e
      split at e
      · cases e
        exact ⟨p, List.mem_cons_self, rfl⟩
      · obtain ⟨q, hq, e'⟩ := ih e
        exact ⟨q, List.mem_cons_of_mem _ hq, e'⟩
  obtain ⟨p, hp, rfl⟩ := m
  have := List.all_eq_true.mp h p hp
  unfold isLst at this
  rw [c] at this
  exact absurd this (by decide)
abbrev AlM : Type := He.AlD × Bool
def obsM (n : Nat) (fa : List He.Fa) (fn : List He.DefD) (g : Addr → Option Obj) : AlM := (He.obsD fa fn (He.frG g (He.asD g n)), noLst (He.frG g (He.asD g n)))
def hookM (n : Nat) (fa : List He.Fa) (fn : List He.DefD) : PySem.W.Hook where
  α := AlM
  obs := fun s => obsM n fa fn s.heap.get?
  val := fun _ => (He.valD fn, true)
  says := fun _ h => ∃ K : PySem.W.Frag, K.In h ∧ He.SaysD fa fn K ∧ noLst K = true
  of := fun _ _ e => ⟨_, He.frG_in, congrArg (fun z : AlM => z.1) e, congrArg (fun z : AlM => z.2) e⟩
  keeps := fun _ _ _ ⟨K, hK, c⟩ k => ⟨K, PySem.W.Frag.In.keeps hK k, c⟩
theorem obsM_eq {n : Nat} {fa : List He.Fa} {fn : List He.DefD} {g : Addr → Option Obj} {s : Shared} (h : ∀ a, g a = s.heap.get? a) : obsM n fa fn g = (hookM n fa fn).obs s := by
  have e : g = s.heap.get? := funext h
  rw [e] <;> rfl
/-- the script's datum -/
def scr (ns : List Int) : D := .lst (ns.map D.int)
theorem reps_ints {K : Fr} {F : Hp} : ∀ ns : List Int, Reps K F (ns.map D.int) (ns.map V.int)
  | [] => Reps.nil
  | n :: ns => Reps.cons rfl (reps_ints ns)
theorem law_sp {K : Fr} {mg : Str → Option Value} {M : FM} (hK : noLst K = true) {n : Nat} (hM : ∀ ns : List Int, ns.length ≤ n → M [scr ns] = .ok (false, .bl true)) (H : Hp) (a : Addr) (ns : List Int) (hl : ns.length ≤ n) (hS : SqL K H a (ns.map V.int)) :
    spF K mg M 1 [.ref a] H (fun v _ => v = .bl true) fun _ _ _ => False := by
  refine ⟨rfl, H, [scr ns], Sub.refl _, ?_, ?_⟩
  · refine Reps.cons ?_ Reps.nil
    unfold scr Rep
    rcases hS with h | ⟨o, its, m, h1, h2, _⟩
    · exact ⟨a, _, rfl, h, reps_ints ns⟩
    · exact (noLst_ok hK h1 h2).elim
  · rw [hM ns hl]
    exact fun v F' H' g n => n
end PM
namespace PM
open PySem L2 PyProof.Rows

/-! ### what simp may use -/
theorem mulOk_l {i j : Int} (h1 : -(2 ^ 64) < i) (h2 : i < 2 ^ 64) : mulOk i j = true := by
  unfold mulOk
  rw [decide_eq_true (show -(2 ^ 64) < i ∧ i < 2 ^ 64 from ⟨h1, h2⟩)]
  simp
theorem mulOk_r {i j : Int} (h1 : -(2 ^ 64) < j) (h2 : j < 2 ^ 64) : mulOk i j = true := by
  unfold mulOk
  rw [decide_eq_true (show -(2 ^ 64) < j ∧ j < 2 ^ 64 from ⟨h1, h2⟩)]
  simp
theorem atI_nat {α : Type} {xs : List α} {i : Nat} (h : i < xs.length) : atI xs (i : Int) = xs[i]? := by
  unfold atI ixN
  simp [h]
theorem ixN_nat {n i : Nat} (h : i < n) : ixN n (i : Int) = some i := by
  unfold ixN
  simp [h]
theorem atI_int {α : Type} {xs : List α} {i : Int} (h0 : 0 ≤ i) (h : i < xs.length) : atI xs i = xs[i.toNat]? := by
  have := atI_nat (xs := xs) (i := i.toNat) (by omega)
  rwa [Int.toNat_of_nonneg h0] at this
theorem cut1 {α : Type} (xs : List α) : cut xs (some 1) none = xs.drop 1 := by
  unfold cut
  rw [show HT.sIx xs.length 0 (some 1) = min 1 xs.length from HT.sIx_nat xs.length 0 1, HT.sIx_none]
  cases xs with
  | nil => rfl
  | cons x r => simp
/-! ### equality of ints, texts, lists of ints -/
theorem shp_int (i : Int) : SeqAt.shaped (PyData.int i) = true := by simp [SeqAt.shaped, PyData.canLay0, PyData.depth]
/-- characters -/
def okS (s : List Nat) : Bool := s.all (· < 0x110000)
theorem shp_str {i : List Nat} (h : okS i = true) : SeqAt.shaped (PyData.str (st i)) = true := by
  have : PyData.strOk (st i) = true := by
    unfold PyData.strOk st
    unfold okS at h
    rw [List.all_toArray]
    exact h
  simp [SeqAt.shaped, PyData.canLay0, PyData.depth, this]
theorem eqv_int (i j : Int) : eqvD (.int i) (.int j) = some (decide (i = j)) := by
  unfold eqvD toPy
  simp only [shp_int, Bool.and_self, if_true]
  rfl
theorem st_inj {i j : List Nat} (h : st i = st j) : i = j := by
  have := congrArg (fun s : Str => s.cps.toList) h
  simpa [st] using this
theorem eqv_str {i j : List Nat} (hi : okS i = true) (hj : okS j = true) : eqvD (.str i) (.str j) = some (decide (i = j)) := by
  unfold eqvD toPy
  simp only [shp_str hi, shp_str hj, Bool.and_self, if_true]
  congr 1
  unfold PyData.eqv
  by_cases e : i = j
  · subst e; simp
  · have : st i ≠ st j := fun z => e (st_inj z)
    simp [e, this]
theorem toPys_ints : ∀ l : List Int, toPys (l.map D.int) = some (l.map PyData.int)
  | [] => rfl
  | i :: l => by
    rw [List.map_cons, toPys, toPys_ints l]
    rfl
theorem eqvAll_ints : ∀ a b : List Int, PyData.eqvAll (a.map PyData.int) (b.map PyData.int) = decide (a = b)
  | [], [] => by simp [PyData.eqvAll]
  | [], _ :: _ => by simp [PyData.eqvAll]
  | _ :: _, [] => by simp [PyData.eqvAll]
  | n :: r, k :: q => by
    simp only [List.map_cons, PyData.eqvAll, eqvAll_ints r q]
    unfold PyData.eqv
    by_cases h : n = k <;> simp [h]
theorem eqv_ints (a b : List Int) : eqvD (.lst (a.map D.int)) (.lst (b.map D.int)) = some (decide (a = b)) := by
  unfold eqvD toPy
  rw [toPys_ints, toPys_ints]
  simp only [Option.map_some, PySem.W.shaped_ints, Bool.and_self, if_true]
  congr 1
  unfold PyData.eqv
  exact eqvAll_ints a b
theorem eqv_self {d : D} {p : PyData} (h : toPy d = some p) (hs : SeqAt.shaped p = true) : eqvD d d = some true := by
  unfold eqvD
  rw [h]
  simp only [hs, Bool.and_self, if_true]
  have : PyData.canLay0 p = true := by
    unfold SeqAt.shaped at hs
    exact (Bool.and_eq_true_iff.mp hs).1
  rw [SeqAt.eqv_refl p this]
/-! ### loops -/
section
variable {G : M Bool} {S : SM} {T : Tg} {n : Nat} {ρ ρ1 ρ2 ρ3 : Env} {d : D} {ds : List D} {s : Slot} {e : Exn}
theorem while_go (h : G ρ = .ok true ρ1) (h2 : S ρ1 = .nx ρ2) : whileF G S (n + 1) ρ = whileF G S n ρ2 := by
  rw [whileF, h]; dsimp only; rw [h2]
theorem while_ct (h : G ρ = .ok true ρ1) (h2 : S ρ1 = .ct ρ2) : whileF G S (n + 1) ρ = whileF G S n ρ2 := by
  rw [whileF, h]; dsimp only; rw [h2]
theorem while_stop (h : G ρ = .ok false ρ1) : whileF G S (n + 1) ρ = .nx ρ1 := by
  rw [whileF, h]
theorem while_rt (h : G ρ = .ok true ρ1) (h2 : S ρ1 = .rt s) : whileF G S (n + 1) ρ = .rt s := by
  rw [whileF, h]; dsimp only; rw [h2]
theorem while_bk (h : G ρ = .ok true ρ1) (h2 : S ρ1 = .bk ρ2) : whileF G S (n + 1) ρ = .nx ρ2 := by
  rw [whileF, h]; dsimp only; rw [h2]
theorem for_nil : forF T S [] ρ = .nx ρ := rfl
theorem for_go (h : T d ρ = some ρ1) (h2 : S ρ1 = .nx ρ2) : forF T S (d :: ds) ρ = forF T S ds ρ2 := by
  rw [forF, h]; dsimp only; rw [h2]
theorem for_ct (h : T d ρ = some ρ1) (h2 : S ρ1 = .ct ρ2) : forF T S (d :: ds) ρ = forF T S ds ρ2 := by
  rw [forF, h]; dsimp only; rw [h2]
theorem for_rt (h : T d ρ = some ρ1) (h2 : S ρ1 = .rt s) : forF T S (d :: ds) ρ = .rt s := by
  rw [forF, h]; dsimp only; rw [h2]
theorem for_bk (h : T d ρ = some ρ1) (h2 : S ρ1 = .bk ρ2) : forF T S (d :: ds) ρ = .nx ρ2 := by
  rw [forF, h]; dsimp only; rw [h2]
theorem fuel_eq (m : Nat) (h : m ≤ 100000) : ∃ k, fuel = m + 1 + k := ⟨1000000 - (m + 1), by unfold fuel; omega⟩
end
theorem comp_go {T : Tg} {G : M Bool} {E : M D} {vs : List Nat} {d x : D} {ds xs : List D} {ρ ρ1 ρ2 ρ3 ρ4 : Env} (hT : T d (wipeE ρ vs) = some ρ1) (hG : G ρ1 = .ok true ρ2) (hE : E ρ2 = .ok x ρ3) (hr : compF T G E vs ds (restE ρ ρ3 vs) = .ok xs ρ4) :
    compF T G E vs (d :: ds) ρ = .ok (x :: xs) ρ4 := by
  rw [compF, hT]; dsimp only; rw [hG]; dsimp only; rw [hE]; dsimp only; rw [hr]
theorem comp_no {T : Tg} {G : M Bool} {E : M D} {vs : List Nat} {d : D} {ds xs : List D} {ρ ρ1 ρ2 ρ4 : Env} (hT : T d (wipeE ρ vs) = some ρ1) (hG : G ρ1 = .ok false ρ2) (hr : compF T G E vs ds (restE ρ ρ2 vs) = .ok xs ρ4) :
    compF T G E vs (d :: ds) ρ = .ok xs ρ4 := by
  rw [compF, hT]; dsimp only; rw [hG]; dsimp only; rw [hr]
theorem lc_ok {A : M (List D)} {T : Tg} {G : M Bool} {E : M D} {vs : List Nat} {ds xs : List D} {ρ ρ1 ρ2 : Env} (hA : A ρ = .ok ds ρ1) (hc : clean vs ρ1 = true) (hl : ds.length < sizeLine) (h : compF T G E vs ds ρ1 = .ok xs ρ2) : lcE A T G E vs ρ = .ok (true, .lst xs) ρ2 := by
  unfold lcE M.bind
  rw [hA]
  dsimp only
  rw [hc, decide_eq_true hl]
  simp only [Bool.and_self, if_true]
  rw [h]
theorem seq_nx {S1 S2 : SM} {ρ ρ1 : Env} (h : S1 ρ = .nx ρ1) : seqS S1 S2 ρ = S2 ρ1 := by
  unfold seqS
  rw [h]
theorem run_rt {N n : Nat} {S : SM} {ds : List D} {s : Slot} (hl : ds.length = n) (h : S (initE N ds) = .rt s) : runF N n S ds = .ok s := by
  unfold runF
  rw [if_pos hl, h]
theorem for_nx {A : M (List D)} {T : Tg} {S : SM} {ds : List D} {ρ ρ1 : Env} (h : A ρ = .ok ds ρ1) : forS A T S ρ = forF T S ds ρ1 := by
  unfold forS M.thenS
  rw [h]
end PM
namespace PM
open PySem L2 PyProof.Rows
variable {pp : Pin}

/-! ### try with clauses, some with a name -/
def goneE (D : Ends) (i : Nat) : Ends := { nx := fun σ H => D.nx (σ.set i none) H, bk := fun σ H => D.bk (σ.set i none) H, ct := fun σ H => D.ct (σ.set i none) H, rt := D.rt }
abbrev SuT := Addr → Value → Option Addr → TS
/-- what a clause makes of the exception at a -/
def wHd (D : Ends) (o : Option Nat) (ts : SuT) (a : Addr) (cls : Value) (d : Option Addr) (σ : L2.St) (H : Hp) : Prop := match o with
  | none => ts a cls d D σ H
  | some i => ts a cls d (goneE D i) (σ.set i (some (.ref a))) H
def wTry (K : Fr) (W : WX) (D : Ends) : List (Value × Option Nat × SuT) → WX
  | [] => W
  | (c, o, ts) :: r => fun cls d σ H => ∃ b, PySem.W.exmOne K cls c = some b ∧ (b = true → ∀ a, H a = none → wHd D o ts a cls d σ H) ∧ (b = false → wTry K W D r cls d σ H)
/-- the suite's promise -/
def SuOk (X : Cx) (su : List Stmt) (ts : SuT) : Prop := ∀ (a : Addr) (oe : Obj) (cls : Value) (d : Option Addr) (pn : List (Addr × Obj)), Zc cls d oe → (∃ vs, oe.data = .fields vs) → PSs (X.suite a ((a, oe) :: pn)) su (ts a cls d)
inductive HdOk (X : Cx) : List ExceptHandler → List (Value × Option Nat × SuT) → Prop
  | nil : HdOk X [] []
  | plain {x : Str} {c : Value} {ts : SuT} {s0 : Stmt} {su : List Stmt} {p1 p2 : Pos} {hs : List ExceptHandler} {l : List (Value × Option Nat × SuT)} (n : Names X x c) (s : SuOk X (s0 :: su) ts) (r : HdOk X hs l) :
      HdOk X (.ExceptHandler (some (.Name x p1)) none (s0 :: su) p2 :: hs) ((c, none, ts) :: l)
  | named {x y : Str} {c : Value} {ts : SuT} {i : Nat} {s0 : Stmt} {su : List Stmt} {p1 p2 : Pos} {hs : List ExceptHandler} {l : List (Value × Option Nat × SuT)} (n : Names X x c) (hi : X.N[i]? = some y) (hl : X.env.kindOf y = some .local) (s : SuOk X (s0 :: su) ts) (r : HdOk X hs l) :
      HdOk X (.ExceptHandler (some (.Name x p1)) (some y) (s0 :: su) p2 :: hs) ((c, some i, ts) :: l)
section
variable {X : Cx} {body : List Stmt} {h0 : ExceptHandler} {hs : List ExceptHandler} {l : List (Value × Option Nat × SuT)} {pos : Pos} {tb : WX → TS} {W : WX}
theorem ps_tryM (hst : X.stack = X.env :: X.outer) (hfm : X.env.frame = some X.env.locals) (hN : X.N.Nodup) (tk : Takes X W)
    (hb : ∀ (W' : WX) (pn : List (Addr × Obj)) (xe : Value → Shared → Prop), Takes (X.tr pn xe) W' → PassesOwn (model X.prog X.w) X.A X.env xe → PSs (X.tr pn xe) body (tb W')) (hh : HdOk X (h0 :: hs) l) :
    PS X (.Try body (h0 :: hs) [] [] pos) (fun D σ H => tb (wTry X.K W D l) D σ H) := by
  refine ⟨fun pins s σ H D I hw => ?_⟩
  have okX := I.ok
  have frX : X.A.frames = some (X.env :: X.outer) := by rw [okX.frames, hst]
  refine wpAny_Try_except (wpAny_mono ((hb (wTry X.K W D l) (X.pn ++ pins) _ (fun u t xx => ?_) PassesOwn.looking).run [] s σ H D (I.toTry _) hw) (fun f t q => ?_) (fun _ _ q => q))
  · obtain ⟨a, B, t0, pins', σ1, H1, cls, d, rfl, J1, nb, up, sk, na, os, ag, w⟩ := xx
    have J : Inv X pins σ1 H1 t0 := J1.ofTry okX
    rw [hst] at sk
    show wpAny (model X.prog X.w) X.A (noteFrame (.ref a) X.env) _ _ _
    refine Sky.land Zc.steady frX hfm sk fun hp fl ups => ?_
    obtain ⟨oe, vs, ge, ze, de⟩ := fl.there
    have Jp : Inv X pins σ1 H1 { t with heap := hp } := J.landed nb fl.1 (up.trans ups) os ag
    -- the exception is no frame's dict
    have far : a ∉ frs (X.env :: X.outer) := fun m => by
      obtain ⟨_, o', e1, e2⟩ := fl.2.2.1.mem m
      rw [ge] at e1
      cases e1
      exact e2 _ de
    have f1 : a ≠ X.env.locals := fun z => far (List.mem_filterMap.mpr ⟨X.env, List.mem_cons_self, by rw [hfm, z]⟩)
    have f2 : a ∉ X.fs := fun m => by
      obtain ⟨e, m1, m2⟩ := List.mem_filterMap.mp m
      exact far (List.mem_filterMap.mpr ⟨e, List.mem_cons_of_mem _ m1, m2⟩)
    have Sp := Jp.suite ge de na f1 f2
    have cls_of : PySem.W.Looks (model X.prog X.w) hp (typeOf (.ref a)) cls := fun A Q E s k q => wpAny_typeOf_ref (k _ _ ge) (by rw [ze.1]; exact q)
    -- the clause's class is looked at
    have ask : ∀ {x : Str} {c : Value} {p1 : Pos} {b : Bool} {R : Bool → Shared → Prop} {E : Value → Shared → Prop}, Names X x c → PySem.W.exmOne X.K cls c = some b → R b { t with heap := hp } →
        wpAny (model X.prog X.w) (X.A.mark (some (.ref a))) (eval (.Name x p1) X.env) (fun c' s' => wpAny (model X.prog X.w) (X.A.mark (some (.ref a))) (excMatches (.ref a) c') R E s') E { t with heap := hp } := fun {x c p1 b R E} n e q => by
      have LM := PySem.W.exm_one (M := model X.prog X.w) Jp.kIn cls_of e
      obtain ⟨g1, g2, g3 | ⟨g3, g4, g5⟩⟩ := n
      · exact ld_glob (X := X.suite a ((a, oe) :: (X.pn ++ pins))) Sp g1 g3 (LM.here q) g2
      · exact ld_blt (X := X.suite a ((a, oe) :: (X.pn ++ pins))) Sp g1 g3 g4 (LM.here q) g5 g2
    have walk : ∀ {hs' : List ExceptHandler} {l' : List (Value × Option Nat × SuT)}, HdOk X hs' l' → wTry X.K W D l' cls d σ1 H1 →
        wpAny (model X.prog X.w) X.A (handleBy (.ref a) X.env hs') (SP X pins D) X.xe { t with heap := hp } := by
      intro hs' l' ok
      induction ok with
      | nil =>
        intro w'
        obtain ⟨_, _, _, o1, v1, T, oT, r1, g1, z1, d1, c1, rest⟩ := id fl
        refine wpAny_handleBy_nil ?_
        unfold PySem.passOn
        refine wpAny_bind (wpAny_field g1 d1 c1 ?_)
        rw [if_neg (show ¬ ((Value.ref T == Value.none) = true) by simp)]
        have go : wpAny (model X.prog X.w) X.A (setFlight (.ref a) X.env.frame) (fun _ s' => wpAny (model X.prog X.w) X.A (throw (.ref a) : Sem Flow) (SP X pins D) X.xe s') X.xe { t with heap := hp } := by
          rw [hfm]
          exact HandSPX.setFlight_upZ fl fun h2 k2 u2 => wpAny_throw (tk _ _ ⟨a, B, t0, pins, σ1, H1, cls, d, rfl, J, nb, (up.trans ups).trans u2, .inr (.inr (by rw [hst]; exact k2)), na, os, ag, w'⟩)
        first
          | exact wpAny_bind (wpAny_pure (wpAny_bind go))
          | exact wpAny_bind go
      | plain n su r ih =>
        intro w'
        obtain ⟨b, e, yes, no⟩ := w'
        refine wpAny_handleBy_cons (codeAny_handlers_test (ask n e ?_)) (by intro z; cases z)
        cases b with
        | false => exact ih (no rfl)
        | true =>
          refine codeAny_handlers_suite (HandSPX.lands_againZ fl fun h2 fl2 u2 => ?_)
          obtain ⟨o2, v2, g2, z2, d2⟩ := fl2.there
          have J2 : Inv X pins σ1 H1 { t with heap := h2 } := J.landed nb fl2.1 ((up.trans ups).trans u2) os ag
          have S2 := J2.suite g2 d2 na f1 f2
          refine wpAny_mono ((su a o2 cls d (X.pn ++ pins) z2 ⟨_, d2⟩).run [] _ _ H1 _ S2 (yes rfl a na)) (fun f t3 q => ?_) (fun _ _ z => z.elim)
          cases f with
          | ret u =>
            obtain ⟨v3, σ3, H3, S3, r3, q3⟩ := q
            exact ⟨_, _, _, S3.unsuite okX, r3, q3⟩
          | next =>
            obtain ⟨σ3, H3, S3, q3⟩ := q
            exact ⟨_, _, S3.unsuite okX, q3⟩
          | brk =>
            obtain ⟨σ3, H3, S3, q3⟩ := q
            exact ⟨_, _, S3.unsuite okX, q3⟩
          | cont =>
            obtain ⟨σ3, H3, S3, q3⟩ := q
            exact ⟨_, _, S3.unsuite okX, q3⟩
      | @named x y c ts i s0 su0 p1 p2 hs2 l2 n hi hl su r ih =>
        intro w'
        obtain ⟨b, e, yes, no⟩ := w'
        refine wpAny_handleBy_cons (codeAny_handlers_test (ask n e ?_)) (by intro z; cases z)
        cases b with
        | false => exact ih (no rfl)
        | true =>
          refine codeAny_handlers_suite_as (HandSPX.lands_againZ fl fun h2 fl2 u2 => ?_)
          obtain ⟨o2, v2, g2, z2, d2⟩ := fl2.there
          have J2 : Inv X pins σ1 H1 { t with heap := h2 } := J.landed nb fl2.1 ((up.trans ups).trans u2) os ag
          have S2 := J2.suite g2 d2 na f1 f2
          refine store_ok (X := X.suite a ((a, o2) :: (X.pn ++ pins))) (v := .ref a) S2 hN hi (.inl hl) rfl (fun t3 S3 => ?_) (.inr hl)
          refine wpAny_mono ((su a o2 cls d (X.pn ++ pins) z2 ⟨_, d2⟩).run [] t3 _ H1 _ S3 (yes rfl a na)) (fun f t4 q => ?_) (fun _ _ z => z.elim)
          have off : ∀ {σ4 : L2.St} {H4 : Hp} {R : Shared → Prop}, Inv (X.suite a ((a, o2) :: (X.pn ++ pins))) [] σ4 H4 t4 → (∀ t5, Inv X pins (σ4.set i none) H4 t5 → R t5) →
              wpAny (model X.prog X.w) X.A (do bindName X.env y .none; unbindBehindTheSuite X.env y p2) (fun _ t5 => R t5) X.xe t4 := fun S4 hR => gone_ok (S4.unsuite okX) hN hi hl hR
          cases f with
          | ret u =>
            obtain ⟨v4, σ4, H4, S4, r4, q4⟩ := q
            exact off S4 fun t5 J5 => ⟨_, _, _, J5, r4, q4⟩
          | next =>
            obtain ⟨σ4, H4, S4, q4⟩ := q
            exact off S4 fun t5 J5 => ⟨_, _, J5, q4⟩
          | brk =>
            obtain ⟨σ4, H4, S4, q4⟩ := q
            exact off S4 fun t5 J5 => ⟨_, _, J5, q4⟩
          | cont =>
            obtain ⟨σ4, H4, S4, q4⟩ := q
            exact off S4 fun t5 J5 => ⟨_, _, J5, q4⟩
    exact walk hh w
  · cases f with
    | ret u =>
      obtain ⟨v, σ1, H1, J, r, q⟩ := q
      exact ⟨v, σ1, H1, J.ofTry okX, r, q⟩
    | next =>
      obtain ⟨σ1, H1, J, q⟩ := q
      exact wpAny_execs_nil ⟨σ1, H1, J.ofTry okX, q⟩
    | brk =>
      obtain ⟨σ1, H1, J, q⟩ := q
      exact ⟨σ1, H1, J.ofTry okX, q⟩
    | cont =>
      obtain ⟨σ1, H1, J, q⟩ := q
      exact ⟨σ1, H1, J.ofTry okX, q⟩
end

/-! ### .. over the data -/
/-- a clause: the place of its name, which classes it takes, what its suite does -/
structure Hn where
  as : Option Nat
  m : List (Str × Bool)
  S : Exn → SM
def unS (o : SOut) : SOut := match o with
  | .exc _ _ => .bad
  | o => o
def offS (i : Nat) (o : SOut) : SOut := match o with
  | .nx ρ => .nx (ρ.set i none)
  | .bk ρ => .bk (ρ.set i none)
  | .ct ρ => .ct (ρ.set i none)
  | .rt s => .rt s
  | _ => .bad
def catchS : List Hn → Exn → SM
  | [], e, ρ => .exc e ρ
  | h :: hs, e, ρ => match h.m.lookup e.cls with
    | none => .bad
    | some false => catchS hs e ρ
    | some true => match h.as with
      | none => unS (h.S e ρ)
      | some i => if i < ρ.length then offS i (h.S e (ρ.set i none)) else .bad
def tryS (B : SM) (hs : List Hn) : SM := fun ρ => match B ρ with
  | .exc e ρ' => catchS hs e ρ'
  | o => o
/-- the context of a suite -/
def cS (c : Ct) (F0 : Hp) (o : Option Nat) (a : Addr) : Ct := { c with F0 := F0, W := fun _ _ _ _ => False, pp := match o with | none => c.pp | some i => some (i, .ref a) }
def SuD (X : Cx) (c : Ct) (o : Option Nat) (su : List Stmt) (S : Exn → SM) : Prop := ∀ (e : Exn) (F0 : Hp) (a : Addr) (oe : Obj) (cls : Value) (d : Option Addr) (pn : List (Addr × Obj)), Zc cls d oe → (∃ vs, oe.data = .fields vs) → XR c.K c.mg F0 F0 e cls d →
  PSs (X.suite a ((a, oe) :: pn)) su (tS (cS c F0 o a) (S e))
/-- the table of a clause is right -/
def TabOk (c : Ct) (m : List (Str × Bool)) (cv : Value) : Prop := ∀ n b, m.lookup n = some b → ∀ cls, c.mg n = some cls → PySem.W.exmOne c.K cls cv = some b
inductive HnOk (X : Cx) (c : Ct) : List ExceptHandler → List Hn → Prop
  | nil : HnOk X c [] []
  | plain {x : Str} {cv : Value} {m : List (Str × Bool)} {S : Exn → SM} {s0 : Stmt} {su : List Stmt} {p1 p2 : Pos} {hs : List ExceptHandler} {l : List Hn} (n : Names X x cv) (t : TabOk c m cv) (s : SuD X c none (s0 :: su) S) (r : HnOk X c hs l) :
      HnOk X c (.ExceptHandler (some (.Name x p1)) none (s0 :: su) p2 :: hs) (⟨none, m, S⟩ :: l)
  | named {x y : Str} {cv : Value} {m : List (Str × Bool)} {S : Exn → SM} {i : Nat} {s0 : Stmt} {su : List Stmt} {p1 p2 : Pos} {hs : List ExceptHandler} {l : List Hn} (n : Names X x cv) (hi : X.N[i]? = some y) (hl : X.env.kindOf y = some .local) (hp : c.pp = none) (t : TabOk c m cv) (s : SuD X c (some i) (s0 :: su) S) (r : HnOk X c hs l) :
      HnOk X c (.ExceptHandler (some (.Name x p1)) (some y) (s0 :: su) p2 :: hs) (⟨some i, m, S⟩ :: l)
def tsOf (c : Ct) (h : Hn) : SuT := fun a cls d D σ H => ∃ e F0, XR c.K c.mg F0 F0 e cls d ∧ tS (cS c F0 h.as a) (h.S e) D σ H
theorem XR.self {K : Fr} {mg : Str → Option Value} {F H : Hp} {e : Exn} {cls : Value} {d : Option Addr} (h : XR K mg F H e cls d) : XR K mg F F e cls d := h
theorem su_of {X : Cx} {c : Ct} {h : Hn} {su : List Stmt} (s : SuD X c h.as su h.S) : SuOk X su (tsOf c h) := fun a oe cls d pn z f =>
  ⟨fun pins t σ H D I ⟨e, F0, x, hw⟩ => (s e F0 a oe cls d pn z f x).run pins t σ H D I hw⟩
theorem hd_of {X : Cx} {c : Ct} {hs : List ExceptHandler} {l : List Hn} (h : HnOk X c hs l) : ∃ l', HdOk X hs l' ∧ ∀ (D : Ends) (e : Exn) (ρ : Env), c.K = X.K → SAft c (catchS l e ρ) D → ∀ σ F H cls d, SRc c F H σ ρ → XR c.K c.mg F H e cls d → wTry X.K c.W D l' cls d σ H := by
  induction h with
  | nil => exact ⟨[], .nil, fun D e ρ _ k σ F H cls d S x => k σ F H cls d S x⟩
  | @plain x cv m Sm s0 su p1 p2 hs l n t s r ih =>
    obtain ⟨l', ok, w⟩ := ih
    refine ⟨_, .plain n (su_of (h := ⟨none, m, Sm⟩) s) ok, fun D e ρ hk k σ F H cls d S x => ?_⟩
    unfold catchS at k
    cases q : m.lookup e.cls with
    | none => rw [q] at k; exact k.elim
    | some b =>
      rw [q] at k
      refine ⟨b, hk ▸ t _ _ q cls x.1, fun hb a na => ?_, fun hb => ?_⟩
      · subst hb
        dsimp only at k
        refine ⟨e, F, x.self, F, ρ, S.raise S.f0 (Sub.refl _), ?_⟩
        show SAft (cS c F none a) (Sm e ρ) D
        have low : ∀ {σ4 : L2.St} {F4 H4 : Hp} {ρ4 : Env}, SRc (cS c F none a) F4 H4 σ4 ρ4 → SRc c F4 H4 σ4 ρ4 := fun {σ4 F4 H4 ρ4} S4 => SR.lower (F1 := F) S4 S.f0 S.new
        cases q2 : Sm e ρ with
        | nx ρ3 => rw [q2] at k; exact fun σ4 F4 H4 S4 => k σ4 F4 H4 (low S4)
        | bk ρ3 => rw [q2] at k; exact fun σ4 F4 H4 S4 => k σ4 F4 H4 (low S4)
        | ct ρ3 => rw [q2] at k; exact fun σ4 F4 H4 S4 => k σ4 F4 H4 (low S4)
        | rt u => rw [q2] at k; exact fun v σ4 ρ4 F4 H4 S4 r4 => k v σ4 ρ4 F4 H4 (low S4) r4
        | exc y ρ3 => rw [q2] at k; exact k.elim
        | bad => rw [q2] at k; exact k.elim
      · subst hb
        exact w D e ρ hk k σ F H cls d S x
  | @named x y cv m Sm i s0 su p1 p2 hs l n hi hl hp t s r ih =>
    obtain ⟨l', ok, w⟩ := ih
    refine ⟨_, .named n hi hl (su_of (h := ⟨some i, m, Sm⟩) s) ok, fun D e ρ hk k σ F H cls d S x => ?_⟩
    unfold catchS at k
    cases q : m.lookup e.cls with
    | none => rw [q] at k; exact k.elim
    | some b =>
      rw [q] at k
      refine ⟨b, hk ▸ t _ _ q cls x.1, fun hb a na => ?_, fun hb => ?_⟩
      · subst hb
        dsimp only at k
        by_cases hlt : i < ρ.length
        · rw [if_pos hlt] at k
          have Sr : SR none c.K c.B F F H σ ρ := hp ▸ SR.raise S S.f0 (Sub.refl _)
          have Sf := Sr.forget i (o := some (.ref a)) Pin.free_no
          have Sp : SR (some (i, .ref a)) c.K c.B F F H (σ.set i (some (.ref a))) (ρ.set i none) := ⟨Sf.bh, Sf.fh, Sf.f0, Sf.new, Sf.len, Sf.sl, Sf.sep, fun j v e => by
            cases e
            rw [List.getElem?_set_self (by rw [S.len]; exact hlt)]⟩
          refine ⟨e, F, x.self, F, _, Sp, ?_⟩
          show SAft (cS c F (some i) a) (Sm e (ρ.set i none)) (goneE D i)
          have low : ∀ {σ4 : L2.St} {F4 H4 : Hp} {ρ4 : Env}, SRc (cS c F (some i) a) F4 H4 σ4 ρ4 → SRc c F4 H4 σ4 ρ4 := fun {σ4 F4 H4 ρ4} S4 => by
            have S5 : SR (some (i, .ref a)) c.K c.B c.F0 F4 H4 σ4 ρ4 := SR.lower (F1 := F) S4 S.f0 S.new
            have S6 : SR none c.K c.B c.F0 F4 H4 σ4 ρ4 := ⟨S5.bh, S5.fh, S5.f0, S5.new, S5.len, S5.sl, S5.sep, Pin.ok_no⟩
            show SR c.pp _ _ _ _ _ _ _
            rw [hp]
            exact S6
          have off : ∀ {σ4 : L2.St} {F4 H4 : Hp} {ρ4 : Env}, SRc (cS c F (some i) a) F4 H4 σ4 ρ4 → SRc c F4 H4 (σ4.set i none) (ρ4.set i none) := fun {σ4 F4 H4 ρ4} S4 => (low S4).forget i (by rw [hp]; exact Pin.free_no)
          cases q2 : Sm e (ρ.set i none) with
          | nx ρ3 => rw [q2] at k; exact fun σ4 F4 H4 S4 => k _ F4 H4 (off S4)
          | bk ρ3 => rw [q2] at k; exact fun σ4 F4 H4 S4 => k _ F4 H4 (off S4)
          | ct ρ3 => rw [q2] at k; exact fun σ4 F4 H4 S4 => k _ F4 H4 (off S4)
          | rt u => rw [q2] at k; exact fun v σ4 ρ4 F4 H4 S4 r4 => k v σ4 ρ4 F4 H4 (low S4) r4
          | exc y ρ3 => rw [q2] at k; exact k.elim
          | bad => rw [q2] at k; exact k.elim
        · rw [if_neg hlt] at k
          exact k.elim
      · subst hb
        exact w D e ρ hk k σ F H cls d S x
theorem s_try {X : Cx} {c : Ct} {B : SM} {body : List Stmt} {h0 : ExceptHandler} {hs : List ExceptHandler} {l : List Hn} {pos : Pos} (hk : c.K = X.K) (hN : X.N.Nodup) (tk : Takes X c.W) (hh : HnOk X c (h0 :: hs) l)
    (hb : ∀ (W' : WX) (pn : List (Addr × Obj)) (xe : Value → Shared → Prop), Takes (X.tr pn xe) W' → PassesOwn (model X.prog X.w) X.A X.env xe → PSs (X.tr pn xe) body (tS { c with W := W' } B))
    (hst : X.stack = X.env :: X.outer := by rfl) (hfm : X.env.frame = some X.env.locals := by rfl) : PS X (.Try body (h0 :: hs) [] [] pos) (tS c (tryS B l)) := by
  obtain ⟨l', ok, w⟩ := hd_of hh
  refine (ps_tryM hst hfm hN tk (tb := fun W' => tS { c with W := W' } B) hb ok).imp fun D σ H ⟨F, ρ, S, k⟩ => ⟨F, ρ, S, ?_⟩
  unfold tryS at k
  cases q : B ρ with
  | nx ρ1 => rw [q] at k; exact k
  | bk ρ1 => rw [q] at k; exact k
  | ct ρ1 => rw [q] at k; exact k
  | rt s => rw [q] at k; exact k
  | bad => rw [q] at k; exact k
  | exc e ρ1 => rw [q] at k; exact fun σ1 F1 H1 cls d S1 x1 => w D e ρ1 hk k σ1 F1 H1 cls d S1 x1

/-! ### raise of a class without fields -/
def raiseS (n : Str) : SM := fun ρ => .exc ⟨n, []⟩ ρ
section
variable {X : Cx} {c : Ct} {pos pos' p p2 : Pos} {x : Str} {m : Str} {j : Nat} {C : Addr} {B newId initId : String} {bmB : List Value}
theorem s_raise0 (tk : Takes X c.W) (hc : X.calm = true) (hM : c.mg = X.mg) (F : ExcBaseFacts B newId initId bmB) (q : PySem.W.excIn X.K C bmB newId = true) (gC : X.mg x = some (.ref C)) (kC : PySem.W.keepIn X.K (.ref C) = true) (r : Raises X (.ref C)) (hg : Gl X x)
    (hdb : (x == ("__debug__" : Str)) = false := by decide) : PS X (.Raise (some (.Call (.Name x p) [.Constant (.str m) j p2] [] pos)) none pos') (tS c (raiseS x)) :=
  (ps_raise hc tk (pmk_own F q gC kC r hg hdb)).imp fun D σ H ⟨F, ρ, S, k⟩ => k σ F H (.ref C) none S ⟨by rw [hM]; exact gC, .inl ⟨rfl, rfl⟩⟩
/-- what is never reached -/
def badS : SM := fun _ => .bad
theorem s_bad {s : Stmt} : PS X s (tS c badS) := ⟨fun _ _ _ _ _ _ ⟨_, _, _, k⟩ => k.elim⟩
def badE : M Slot := fun _ => .bad
theorem e_bad {e : Expr} : PE X e (tE c badE) := ⟨fun _ _ _ _ _ _ ⟨_, _, _, k⟩ => k.elim⟩
end
end PM
namespace PM
open PySem L2 PyProof.Rows
variable {pp : Pin}

/-! ### flat data; in -/
def flatD : D → Bool
  | .non => true | .bl _ => true | .int _ => true | .str _ => true
  | _ => false
def toV : D → V
  | .non => .non | .bl b => .bl b | .int i => .int i | .str s => .str (st s)
  | _ => .non
section
variable {K : Fr} {F H : Hp}
theorem flat_v {d : D} {v : V} (r : PkR K F H d v) (h : flatD d = true) : v = toV d := by
  cases d with
  | non => exact r
  | bl b => exact r
  | int i => exact r
  | str s => exact r
  | _ => cases h
theorem flat_V {d : D} (h : flatD d = true) : flatV (toV d) = true := by
  cases d with
  | non => rfl
  | bl b => rfl
  | int i => rfl
  | str s => rfl
  | _ => cases h
theorem flats_v : ∀ {ds : List D} {vs : List V}, Reps K F ds vs → ds.all flatD = true → vs = ds.map toV ∧ vs.all flatV = true
  | [], vs, r, _ => by rw [r.inv0]; exact ⟨rfl, rfl⟩
  | d :: ds, vs, r, h => by
    obtain ⟨v, w, rfl, r1, r2⟩ := r.inv
    rw [List.all_cons, Bool.and_eq_true] at h
    obtain ⟨e1, e2⟩ := flats_v r2 h.2
    have e : v = toV d := by
      cases d with
      | non => exact r1
      | bl b => exact r1
      | int i => exact r1
      | str s => exact r1
      | _ => cases h.1
    rw [e, e1]
    refine ⟨rfl, ?_⟩
    rw [List.all_cons, flat_V h.1, ← e1, e2]
    rfl
def memD : D → D → Option Bool
  | d, .lst ds => if flatD d && ds.all flatD then some (inV (toV d) (ds.map toV)) else none
  | d, .tup ds => if flatD d && ds.all flatD then some (inV (toV d) (ds.map toV)) else none
  | .str i, .str j => some (!(Builtin.Str.occurrences (st j) (st i) 0 (st j).length 1).isEmpty)
  | _, _ => none
def inD (d1 d2 : D) : Option Slot := (memD d1 d2).map fun b => (false, .bl b)
def notInD (d1 d2 : D) : Option Slot := (memD d1 d2).map fun b => (false, .bl (!b))
def rInS : R2 := fun x y H Q => ∃ i j, x = .str i ∧ y = .str j ∧ Q (.bl (!(Builtin.Str.occurrences j i 0 j.length 1).isEmpty)) H
def rNotInS : R2 := fun x y H Q => ∃ i j, x = .str i ∧ y = .str j ∧ Q (.bl (!(!(Builtin.Str.occurrences j i 0 j.length 1).isEmpty))) H
def rInA (K : Fr) : R2 := fun x y H Q => rIn K false x y H Q ∨ rInS x y H Q
def rNotInA (K : Fr) : R2 := fun x y H Q => rIn K true x y H Q ∨ rNotInS x y H Q
theorem op_inA {X : Cx} : OpR X (compareOp .In) (rInA X.K) := OpR.or op_in_seq (r' := rInS) op_in_str
theorem op_notInA {X : Cx} : OpR X (compareOp .NotIn) (rNotInA X.K) := OpR.or op_notIn_seq (r' := rNotInS) op_notIn_str
theorem memD_ok {d1 d2 : D} {x y : V} {b : Bool} {Q : Bool → Prop} (fh : Sub F H) (r1 : PkR K F H d1 x) (r2 : PkR K F H d2 y) (e : memD d1 d2 = some b) (q : Q b) :
    (∃ p xs, y = .ref p ∧ (SqL K H p xs ∨ SqT K H p xs) ∧ flatV x = true ∧ xs.all flatV = true ∧ Q (inV x xs)) ∨ (∃ i j, x = .str i ∧ y = .str j ∧ Q (!(Builtin.Str.occurrences j i 0 j.length 1).isEmpty)) := by
  unfold memD at e
  split at e
  · rename_i d ds
    split at e
    · rename_i hf
      cases e
      have hf := Bool.and_eq_true_iff.mp hf
      obtain ⟨a, vs, rfl, h1, k1⟩ := r2
      obtain ⟨e1, e2⟩ := flats_v k1 hf.2
      have e3 := flat_v r1 hf.1
      exact .inl ⟨a, vs, rfl, .inl (.inl h1), by rw [e3]; exact flat_V hf.1, e2, by rw [e3, e1]; exact q⟩
    · cases e
  · rename_i d ds
    split at e
    · rename_i hf
      cases e
      have hf := Bool.and_eq_true_iff.mp hf
      obtain ⟨a, vs, rfl, h1, k1⟩ := pkTup r2
      obtain ⟨e1, e2⟩ := flats_v k1 hf.2
      have e3 := flat_v r1 hf.1
      exact .inl ⟨a, vs, rfl, .inr (fh.sqT h1), by rw [e3]; exact flat_V hf.1, e2, by rw [e3, e1]; exact q⟩
    · cases e
  · cases e
    exact .inr ⟨_, _, r1, r2, q⟩
  · cases e
theorem ok_in : OpOk K inD (rInA K) := by
  intro F H d1 d2 x y s Q fh r1 r2 e k
  unfold inD at e
  cases q : memD d1 d2 with
  | none => rw [q] at e; cases e
  | some b =>
    rw [q] at e
    cases e
    rcases memD_ok (Q := fun b => Q (.bl b) H) fh r1 r2 q (vnB fh k) with ⟨p, xs, h⟩ | h
    · exact .inl ⟨p, xs, h⟩
    · exact .inr h
theorem ok_notIn : OpOk K notInD (rNotInA K) := by
  intro F H d1 d2 x y s Q fh r1 r2 e k
  unfold notInD at e
  cases q : memD d1 d2 with
  | none => rw [q] at e; cases e
  | some b =>
    rw [q] at e
    cases e
    rcases memD_ok (Q := fun b => Q (.bl (!b)) H) fh r1 r2 q (vnB fh k) with ⟨p, xs, h⟩ | h
    · exact .inl ⟨p, xs, h⟩
    · exact .inr h
end
theorem e_in {X : Cx} {c : Ct} {a b : Expr} {pos : Pos} {op : CmpOp} {f : D → D → Option Slot} {r : R2} {A1 A2 : M D} (ho : OpR X (compareOp op) r) (ok : OpOk c.K f r) (ha : PE X a (tP c A1)) (hb : PE X b (tP c A2)) (hm : behindInMarks op b = false := by rfl) : PE X (.Compare a [op] [b] pos) (tE c (bin f A1 A2)) := e_cmp ho ok ha hb hm
/-! ### built-in calls -/
section
variable {K : Fr} {F H : Hp}
def intsD : List D → Option (List Int)
  | [] => some []
  | .int i :: r => (intsD r).map fun q => i :: q
  | _ => none
def blsD : List D → Option (List Bool)
  | [] => some []
  | .bl i :: r => (blsD r).map fun q => i :: q
  | _ => none
theorem intsD_reps : ∀ {xs : List D} {vs : List V} {ys : List Int}, Reps K F xs vs → intsD xs = some ys → vs = ys.map V.int
  | [], vs, ys, r, e => by cases e; exact r.inv0
  | d :: xs, vs, ys, r, e => by
    cases d with
    | int s =>
      obtain ⟨v, w, rfl, r1, r2⟩ := r.inv
      unfold intsD at e
      cases q : intsD xs with
      | none => rw [q] at e; cases e
      | some zs =>
        rw [q] at e
        cases e
        have r1 : v = .int s := r1
        rw [r1, intsD_reps r2 q]
        rfl
    | _ => cases e
theorem blsD_reps : ∀ {xs : List D} {vs : List V} {ys : List Bool}, Reps K F xs vs → blsD xs = some ys → vs = ys.map V.bl
  | [], vs, ys, r, e => by cases e; exact r.inv0
  | d :: xs, vs, ys, r, e => by
    cases d with
    | bl s =>
      obtain ⟨v, w, rfl, r1, r2⟩ := r.inv
      unfold blsD at e
      cases q : blsD xs with
      | none => rw [q] at e; cases e
      | some zs =>
        rw [q] at e
        cases e
        have r1 : v = .bl s := r1
        rw [r1, blsD_reps r2 q]
        rfl
    | _ => cases e
def sumD : List D → Option Slot
  | [.lst xs] => (intsD xs).map fun ns => (false, .int ns.sum)
  | _ => none
theorem ok_sum : CallOk K sumD (rSum K) := by
  intro F H ds xs s Q fh r e k
  unfold sumD at e
  split at e
  · rename_i ys
    cases q : intsD ys with
    | none => rw [q] at e; cases e
    | some ns =>
      rw [q] at e
      cases e
      obtain ⟨x, rfl, a, vs, rfl, h1, k1⟩ := r.one
      have := intsD_reps k1 q
      subst this
      exact ⟨a, ns, rfl, .inl h1, vnI fh k⟩
  · cases e
def allD : List D → Option Slot
  | [.lst xs] => (blsD xs).map fun ns => (false, .bl (ns.all id))
  | _ => none
def anyD : List D → Option Slot
  | [.lst xs] => (blsD xs).map fun ns => (false, .bl (ns.any id))
  | _ => none
theorem ok_all : CallOk K allD (rAll K) := by
  intro F H ds xs s Q fh r e k
  unfold allD at e
  split at e
  · rename_i ys
    cases q : blsD ys with
    | none => rw [q] at e; cases e
    | some ns =>
      rw [q] at e
      cases e
      obtain ⟨x, rfl, a, vs, rfl, h1, k1⟩ := r.one
      have := blsD_reps k1 q
      subst this
      exact ⟨a, ns, rfl, .inl h1, vnB fh k⟩
  · cases e
theorem ok_any : CallOk K anyD (rAny K) := by
  intro F H ds xs s Q fh r e k
  unfold anyD at e
  split at e
  · rename_i ys
    cases q : blsD ys with
    | none => rw [q] at e; cases e
    | some ns =>
      rw [q] at e
      cases e
      obtain ⟨x, rfl, a, vs, rfl, h1, k1⟩ := r.one
      have := blsD_reps k1 q
      subst this
      exact ⟨a, ns, rfl, .inl h1, vnB fh k⟩
  · cases e
/-- the greatest, the least of a list of ints -/
def maxI : List Int → Option Int
  | [] => none
  | i :: r => some (r.foldl max i)
def minI : List Int → Option Int
  | [] => none
  | i :: r => some (r.foldl min i)
theorem foldl_max : ∀ (r : List Int) (i m : Int), m ∈ i :: r → (∀ y ∈ i :: r, y ≤ m) → r.foldl max i = m
  | [], i, m, h, _ => by simpa using (List.mem_singleton.mp h).symm
  | j :: r, i, m, h, h2 => by
    rw [List.foldl_cons]
    refine foldl_max r (max i j) m ?_ fun y hy => ?_
    · rcases List.mem_cons.mp h with e | h
      · subst e
        have := h2 j (List.mem_cons_of_mem _ List.mem_cons_self)
        rw [show max m j = m by omega]
        exact List.mem_cons_self
      · rcases List.mem_cons.mp h with e | h
        · subst e
          have := h2 i List.mem_cons_self
          rw [show max i m = m by omega]
          exact List.mem_cons_self
        · exact List.mem_cons_of_mem _ h
    · rcases List.mem_cons.mp hy with e | hy
      · have h3 := h2 i List.mem_cons_self
        have h4 := h2 j (List.mem_cons_of_mem _ List.mem_cons_self)
        omega
      · exact h2 y (List.mem_cons_of_mem _ (List.mem_cons_of_mem _ hy))
theorem foldl_min : ∀ (r : List Int) (i m : Int), m ∈ i :: r → (∀ y ∈ i :: r, m ≤ y) → r.foldl min i = m
  | [], i, m, h, _ => by simpa using (List.mem_singleton.mp h).symm
  | j :: r, i, m, h, h2 => by
    rw [List.foldl_cons]
    refine foldl_min r (min i j) m ?_ fun y hy => ?_
    · rcases List.mem_cons.mp h with e | h
      · subst e
        have := h2 j (List.mem_cons_of_mem _ List.mem_cons_self)
        rw [show min m j = m by omega]
        exact List.mem_cons_self
      · rcases List.mem_cons.mp h with e | h
        · subst e
          have := h2 i List.mem_cons_self
          rw [show min i m = m by omega]
          exact List.mem_cons_self
        · exact List.mem_cons_of_mem _ h
    · rcases List.mem_cons.mp hy with e | hy
      · have h3 := h2 i List.mem_cons_self
        have h4 := h2 j (List.mem_cons_of_mem _ List.mem_cons_self)
        omega
      · exact h2 y (List.mem_cons_of_mem _ (List.mem_cons_of_mem _ hy))
def maxD : List D → Option Slot
  | [.lst xs] => ((intsD xs).bind maxI).map fun m => (false, .int m)
  | [.int i, .int j] => some (false, .int (if j > i then j else i))
  | _ => none
def minD : List D → Option Slot
  | [.lst xs] => ((intsD xs).bind minI).map fun m => (false, .int m)
  | [.int i, .int j] => some (false, .int (if j < i then j else i))
  | _ => none
def rMaxA (K : Fr) : List V → Hp → VK → Prop := fun xs H Q => rMax K xs H Q ∨ ∃ i j, xs = [.int i, .int j] ∧ Q (.int (if j > i then j else i)) H
def rMinA (K : Fr) : List V → Hp → VK → Prop := fun xs H Q => rMin K xs H Q ∨ ∃ i j, xs = [.int i, .int j] ∧ Q (.int (if j < i then j else i)) H
theorem callR_or {X : Cx} {u : Value} {r r' : List V → Hp → VK → Prop} (h : CallR X u r) (h' : CallR X u r') : CallR X u (fun xs H Q => r xs H Q ∨ r' xs H Q) := fun pins s σ H xs us Q I rx q => by
  rcases q with q | q
  · exact h pins s σ H xs us Q I rx q
  · exact h' pins s σ H xs us Q I rx q
theorem op_maxA {X : Cx} (hc : X.calm = true) : CallR X (.builtin "max") (rMaxA X.K) := callR_or (cr_max hc) (call_max2 hc)
theorem op_minA {X : Cx} (hc : X.calm = true) : CallR X (.builtin "min") (rMinA X.K) := callR_or (cr_min hc) (call_min2 hc)
theorem ok_max : CallOk K maxD (rMaxA K) := by
  intro F H ds xs s Q fh r e k
  unfold maxD at e
  split at e
  · rename_i ys
    cases q : intsD ys with
    | none => rw [q] at e; cases e
    | some ns =>
      rw [q] at e
      cases ns with
      | nil => cases e
      | cons n ns =>
        cases e
        obtain ⟨x, rfl, a, vs, rfl, h1, k1⟩ := r.one
        have := intsD_reps k1 q
        subst this
        exact .inl ⟨a, n :: ns, rfl, .inl h1, Nat.succ_pos _, fun m hm h2 => by rw [← foldl_max ns n m hm h2]; exact vnI fh k⟩
  · cases e
    obtain ⟨x, y, rfl, r1, r2⟩ := r.two
    have r1 : x = .int _ := r1
    have r2 : y = .int _ := r2
    subst r1; subst r2
    exact .inr ⟨_, _, rfl, vnI fh k⟩
  · cases e
theorem ok_min : CallOk K minD (rMinA K) := by
  intro F H ds xs s Q fh r e k
  unfold minD at e
  split at e
  · rename_i ys
    cases q : intsD ys with
    | none => rw [q] at e; cases e
    | some ns =>
      rw [q] at e
      cases ns with
      | nil => cases e
      | cons n ns =>
        cases e
        obtain ⟨x, rfl, a, vs, rfl, h1, k1⟩ := r.one
        have := intsD_reps k1 q
        subst this
        exact .inl ⟨a, n :: ns, rfl, .inl h1, Nat.succ_pos _, fun m hm h2 => by rw [← foldl_min ns n m hm h2]; exact vnI fh k⟩
  · cases e
    obtain ⟨x, y, rfl, r1, r2⟩ := r.two
    have r1 : x = .int _ := r1
    have r2 : y = .int _ := r2
    subst r1; subst r2
    exact .inr ⟨_, _, rfl, vnI fh k⟩
  · cases e
def absD : List D → Option Slot
  | [.int i] => some (false, .int (if i < 0 then -i else i))
  | _ => none
def rAbs : List V → Hp → VK → Prop := fun xs H Q => ∃ i, xs = [.int i] ∧ Q (.int (if i < 0 then -i else i)) H
theorem op_abs {X : Cx} : CallR X (.builtin "abs") rAbs := call_abs
theorem ok_abs : CallOk K absD rAbs := by
  intro F H ds xs s Q fh r e k
  unfold absD at e
  split at e
  · cases e
    obtain ⟨x, rfl, r1⟩ := r.one
    have r1 : x = .int _ := r1
    subst r1
    exact ⟨_, rfl, vnI fh k⟩
  · cases e
def gcdD : List D → Option Slot
  | [.int i, .int j] => some (false, .int ((Nat.gcd i.natAbs j.natAbs : Nat) : Int))
  | _ => none
theorem ok_gcd : CallOk K gcdD rGcd := by
  intro F H ds xs s Q fh r e k
  unfold gcdD at e
  split at e
  · cases e
    obtain ⟨x, y, rfl, r1, r2⟩ := r.two
    have r1 : x = .int _ := r1
    have r2 : y = .int _ := r2
    subst r1; subst r2
    exact ⟨_, _, rfl, vnI fh k⟩
  · cases e
/-- sorted(xs) of ints -/
def sortI (ns : List Int) : List Int := ns.mergeSort (fun a b => decide (a ≤ b))
end
section
variable {X : Cx} {c : Ct} {e o : Expr} {es : List Expr} {pos p apos : Pos} {x : Str}
/-- a module's name for a built-in function -/
theorem e_bfn {id : String} {f : List D → Option Slot} {r : List V → Hp → VK → Prop} {R : M (List D)} (hc : CallR X (.builtin id) r) (ok : CallOk c.K f r) (hg : Gl X x) (hm : X.mg x = some (.builtin id)) (ha : PA X (e :: es) (tPs c R)) (hdb : (x == ("__debug__" : Str)) = false := by decide)
    (he : starEach (e :: es) X.env = (false, eval e X.env) :: starEach es X.env := by rfl) (hpl : (backTo pos (starEach es X.env)).any (·.1) = false := by rfl) : PE X (.Call (.Name x p) (e :: es) [] pos) (tE c (blt f R)) :=
  (pe_callBfun hc hg hm ha hdb he hpl).imp fun _ _ _ h => cb_tr ok h
/-- x.bit_length() -/
def bitsD : D → Option Slot
  | .int i => some (false, .int (Builtin.Int.intBits i : Nat))
  | _ => none
theorem e_bits {A : M D} (ho : PE X o (tP c A)) (hbase : attributeBase o "bit_length" X.env (eval o X.env) = eval o X.env := by rfl) (hline : (apos.endLine == pos.line) = true := by rfl) : PE X (.Call (.Attribute o "bit_length" apos) [] [] pos) (tE c (una bitsD A)) := by
  refine (pe_bits ho hbase hline).imp fun σ H Q ⟨F, ρ, S, k⟩ => ⟨F, ρ, S, k.step fun d ρ1 v F1 H1 S1 r1 f1 h1 a1 => ?_⟩
  obtain ⟨s, e, k⟩ := a1.lift S1
  unfold bitsD at e
  split at e
  · cases e
    exact ⟨_, r1, vnI S1.fh k⟩
  · cases e
end
end PM
namespace PM
open PySem L2 PyProof.Rows
variable {pp : Pin}

/-! ### what an exception's class must say -/
structure XCls (K : Fr) (C : Addr) : Prop where
  hcl : (PySem.W.clsIn K C).isSome = true
  hga : PySem.W.findIn K (.ref C) "__getattribute__" = some (some (.builtin "BaseException.__getattribute__"))
  hgt : PySem.W.findIn K (.ref C) "__getattr__" = some none
  hsub : PySem.W.subIn K (.ref C) (.type "BaseException") = some true
  ha : PySem.W.findIn K (.ref C) "__class__" = some (some (.builtin "object.__class__"))
  hn : PySem.W.specialIn K (.builtin "object.__class__") "__get__" = some (some (.builtin "getset_descriptor.__get__"))
  htk : PySem.W.takesIn K (.builtin "object.__class__") = some true
  hm : PySem.W.mroIn K C (.type "object") = some true
def xclsB (K : Fr) (C : Addr) : Bool := (PySem.W.clsIn K C).isSome && (decide (PySem.W.findIn K (.ref C) "__getattribute__" = some (some (.builtin "BaseException.__getattribute__"))) && (decide (PySem.W.findIn K (.ref C) "__getattr__" = some none) &&
  (decide (PySem.W.subIn K (.ref C) (.type "BaseException") = some true) && (decide (PySem.W.findIn K (.ref C) "__class__" = some (some (.builtin "object.__class__"))) && (decide (PySem.W.specialIn K (.builtin "object.__class__") "__get__" = some (some (.builtin "getset_descriptor.__get__"))) &&
  (decide (PySem.W.takesIn K (.builtin "object.__class__") = some true) && decide (PySem.W.mroIn K C (.type "object") = some true)))))))
theorem ba2 {a b : Bool} (h : (a && b) = true) : a = true ∧ b = true := Bool.and_eq_true_iff.mp h
theorem xclsB_ok {K : Fr} {C : Addr} (h : xclsB K C = true) : XCls K C := by
  obtain ⟨h1, h⟩ := ba2 h
  obtain ⟨h2, h⟩ := ba2 h
  obtain ⟨h3, h⟩ := ba2 h
  obtain ⟨h4, h⟩ := ba2 h
  obtain ⟨h5, h⟩ := ba2 h
  obtain ⟨h6, h⟩ := ba2 h
  obtain ⟨h7, h8⟩ := ba2 h
  exact ⟨h1, of_decide_eq_true h2, of_decide_eq_true h3, of_decide_eq_true h4, of_decide_eq_true h5, of_decide_eq_true h6, of_decide_eq_true h7, of_decide_eq_true h8⟩
/-- isinstance(e, c), isinstance(e, (c, ..)) of the exception that is handled -/
def dOk (d : Option Addr) (H : Hp) : Prop := d = none ∨ ∃ dx fs, d = some dx ∧ H dx = some (.xd fs)
def rIsX (K : Fr) (C a : Addr) (d : Option Addr) : List V → Hp → VK → Prop := fun xs H Q => dOk d H ∧ ((∃ (c : V) (cv : Value) (b : Bool), xs = [.ref a, c] ∧ (∀ u, RelV c u → u = cv) ∧ PySem.W.kitOne K (.ref C) cv = some b ∧ Q (.bl b) H) ∨
  ∃ (tp : Addr) (cs : List V) (us : List Value) (b : Bool), xs = [.ref a, .ref tp] ∧ H tp = some (.tup cs) ∧ Paired ClsV cs us ∧ PySem.W.kitAny K (.ref C) us = some b ∧ Q (.bl b) H)
theorem call_isX {X : Cx} {a C : Addr} {d : Option Addr} {oe : Obj} {pn : List (Addr × Obj)} (T : XCls X.K C) (hz : Zc (.ref C) d oe) (hf : ∃ vs, oe.data = .fields vs) : CallR (X.suite a ((a, oe) :: pn)) (.builtin "isinstance") (rIsX X.K C a d) := by
  intro pins s σ H xs us Q I r h
  obtain ⟨hd, h⟩ := h
  obtain ⟨ge, _⟩ := I.pin (a, oe) (List.mem_append_left _ List.mem_cons_self)
  obtain ⟨vs, hv⟩ := hf
  have J : ∃ od, PySem.W.InstAt s.heap a oe C od := by
    obtain ⟨oc, od, oda, osl⟩ := oe
    obtain ⟨h1, h2⟩ := hz
    dsimp only at h1 h2 hv
    subst h1 hv
    rcases hd with rfl | ⟨dx, fs, rfl, hx⟩
    · subst h2
      exact ⟨none, ge, rfl, rfl, trivial⟩
    · subst h2
      have hx2 : ObjOk X.prog X.w H s.heap dx (.xd fs) := I.hok dx _ hx
      obtain ⟨mA, hns, _⟩ := hx2
      obtain ⟨o, es, ep, ho, _⟩ := hns
      exact ⟨some o, ge, rfl, rfl, ho⟩
  obtain ⟨od, J⟩ := J
  have Z := PySem.W.kitx_exc (x := a) (ox := oe) (od := od) T.hcl T.hga T.hgt T.hsub T.ha T.hn T.htk T.hm
  rcases h with ⟨c, cv, b, rfl, hcv, e, q⟩ | ⟨tp, cs, ws, b, rfl, hT, k, e, q⟩
  · obtain ⟨u1, u2, rfl, r1, r2⟩ := vals2 r
    cases (show u1 = Value.ref a from r1)
    rw [hcv _ r2]
    exact PySem.W.kia_one Z I.kIn J e (fun z => nomatch z) fun tk => ⟨.bl b, H, I.tok tk, rfl, q⟩
  · obtain ⟨u1, u2, rfl, r1, r2⟩ := vals2 r
    cases (show u1 = Value.ref a from r1)
    cases (show u2 = Value.ref tp from r2)
    obtain ⟨_, its, rv, o, h1, h2, n, h3⟩ := (show ObjOk X.prog X.w H s.heap tp (.tup cs) from I.hok tp _ hT)
    have e3 := ClsV.all k rv
    subst e3
    obtain ⟨oc, od2, dt, sl⟩ := o
    simp only at h2 h3
    subst h2 h3
    exact PySem.W.kia_tup Z I.kIn J h1 e (fun z => nomatch z) fun tk => ⟨.bl b, H, I.tok tk, rfl, q⟩
/-- a table over the names of classes -/
def isE (t : List (Str × Bool)) (e : Exn) : M Slot := M.lift ((t.lookup e.cls).map fun b => (false, .bl b))
def TabP (P : Str → Bool → Prop) (m : List (Str × Bool)) : Prop := ∀ n b, m.lookup n = some b → P n b
theorem tab_nil {P : Str → Bool → Prop} : TabP P [] := fun n b h => by cases h
theorem tab_cons {P : Str → Bool → Prop} {n : Str} {b : Bool} {m : List (Str × Bool)} (h : P n b) (r : TabP P m) : TabP P ((n, b) :: m) := fun n' b' e => by
  rw [List.lookup_cons] at e
  split at e
  · rename_i q
    cases e
    have := eq_of_beq q
    subst this
    exact h
  · exact r n' b' e
/-- what isinstance(e, cv) says of an exception of the class n -/
def IsP (c : Ct) (cv : Value) (n : Str) (b : Bool) : Prop := ∃ C, c.mg n = some (.ref C) ∧ XCls c.K C ∧ PySem.W.kitOne c.K (.ref C) cv = some b
def IsPs (c : Ct) (cvs : List Value) (n : Str) (b : Bool) : Prop := ∃ C, c.mg n = some (.ref C) ∧ XCls c.K C ∧ PySem.W.kitAny c.K (.ref C) cvs = some b
theorem XR.dok {K : Fr} {mg : Str → Option Value} {F H F0 : Hp} {e : Exn} {cls : Value} {d : Option Addr} (h : XR K mg F0 F0 e cls d) (f : Sub F0 F) (fh : Sub F H) : dOk d H := by
  rcases h.2 with ⟨_, h2⟩ | ⟨dx, vs, h2, h3, _⟩
  · exact .inl h2
  · exact .inr ⟨dx, _, h2, fh _ _ (f _ _ h3)⟩
section
variable {X : Cx} {c : Ct} {F0 : Hp} {i : Nat} {a : Addr} {oe : Obj} {cls : Value} {d : Option Addr} {pn : List (Addr × Obj)} {e : Exn} {y x : Str} {p p1 p2 pos : Pos} {t : List (Str × Bool)} {cv : Value} {v : V}
theorem e_isE (hz : Zc cls d oe) (hf : ∃ vs, oe.data = .fields vs) (hx : XR c.K c.mg F0 F0 e cls d) (hK : c.K = X.K) (T : TabP (IsP c cv) t)
    (hg : Gl (X.suite a ((a, oe) :: pn)) "isinstance") (hm : X.mg "isinstance" = none) (he : PE (X.suite a ((a, oe) :: pn)) (.Name y p1) (tVar i)) (hc : PE (X.suite a ((a, oe) :: pn)) (.Name x p2) (tC v)) (hv : ∀ u, RelV v u → u = cv) :
    PE (X.suite a ((a, oe) :: pn)) (.Call (.Name "isinstance" p) [.Name y p1, .Name x p2] [] pos) (tE (cS c F0 (some i) a) (isE t e)) := by
  by_cases hl : ∃ b, t.lookup e.cls = some b
  · obtain ⟨b, hl⟩ := hl
    obtain ⟨C, hC, XC, hk⟩ := T _ _ hl
    have e1 := hx.1.symm.trans hC
    cases e1
    refine (pe_callB (call_isX (X := X) (hK ▸ XC) hz hf) hg hm (by decide +kernel) (pa_cons he (pa_cons hc pa_nil))).imp fun σ H Q ⟨F, ρ, S, k⟩ => ?_
    have hd : dOk d H := hx.dok S.f0 S.fh
    refine ⟨.ref a, S.pk i _ rfl, hd, .inl ⟨v, cv, b, rfl, hv, hK ▸ hk, ?_⟩⟩
    unfold isE at k
    rw [hl] at k
    exact k (.bl b) F H S (Sub.refl _) (Sub.refl _) ⟨rfl, fun z => by cases z⟩
  · refine ⟨fun pins s σ H Q I ⟨F, ρ, S, k⟩ => ?_⟩
    unfold isE at k
    cases q : t.lookup e.cls with
    | none => rw [q] at k; exact k.elim
    | some b => exact absurd ⟨b, q⟩ hl
/-- .. a tuple of classes -/
theorem e_isEs {es : List Expr} {vs : List V} {cvs : List Value} {kk : Nat} (hz : Zc cls d oe) (hf : ∃ vs, oe.data = .fields vs) (hx : XR c.K c.mg F0 F0 e cls d) (hK : c.K = X.K) (T : TabP (IsPs c cvs) t)
    (hg : Gl (X.suite a ((a, oe) :: pn)) "isinstance") (hm : X.mg "isinstance" = none) (he : PE (X.suite a ((a, oe) :: pn)) (.Name y p1) (tVar i)) (hc : PA (X.suite a ((a, oe) :: pn)) es (fun _ H Q => Q vs H)) (hv : Paired ClsV vs cvs) (hl1 : vs.length ≤ sizeLine) (hl0 : vs ≠ []) :
    PE (X.suite a ((a, oe) :: pn)) (.Call (.Name "isinstance" p) [.Name y p1, .Tuple es kk p2] [] pos) (tE (cS c F0 (some i) a) (isE t e)) := by
  by_cases hl : ∃ b, t.lookup e.cls = some b
  · obtain ⟨b, hl⟩ := hl
    obtain ⟨C, hC, XC, hk⟩ := T _ _ hl
    have e1 := hx.1.symm.trans hC
    cases e1
    refine (pe_callB (call_isX (X := X) (hK ▸ XC) hz hf) hg hm (by decide +kernel) (pa_cons he (pa_cons (pe_tup hc) pa_nil))).imp fun σ H Q ⟨F, ρ, S, k⟩ => ?_
    refine ⟨.ref a, S.pk i _ rfl, hl1, fun p hp => ?_⟩
    have g := growT (o := .tup vs) S.fh hp
    have S2 := S.grow g
    have hd : dOk d (upd H p (.tup vs)) := hx.dok S2.f0 S2.fh
    refine ⟨hd, .inr ⟨p, vs, cvs, b, rfl, upd_same, hv, hK ▸ hk, ?_⟩⟩
    unfold isE at k
    rw [hl] at k
    exact k (.bl b) _ _ S2 g.f g.h ⟨rfl, fun z => by cases z⟩
  · refine ⟨fun pins s σ H Q I ⟨F, ρ, S, k⟩ => ?_⟩
    unfold isE at k
    cases q : t.lookup e.cls with
    | none => rw [q] at k; exact k.elim
    | some b => exact absurd ⟨b, q⟩ hl
end
/-- facts of a class, by name -/
def clsB (K : Fr) (n : Str) : Bool := decide (PySem.W.nsIn K mainGlobals n = some (some (.ref (He.ga K n)))) && xclsB K (He.ga K n)
def kitB1 (K : Fr) (n m : Str) (b : Bool) : Bool := decide (PySem.W.kitOne K (.ref (He.ga K n)) (.ref (He.ga K m)) = some b)
def kitBT (K : Fr) (n : Str) (T : String) (b : Bool) : Bool := decide (PySem.W.kitOne K (.ref (He.ga K n)) (.type T) = some b)
def exmB (K : Fr) (n m : Str) (b : Bool) : Bool := decide (PySem.W.exmOne K (.ref (He.ga K n)) (.ref (He.ga K m)) = some b)
def exmBT (K : Fr) (n : Str) (T : String) (b : Bool) : Bool := decide (PySem.W.exmOne K (.ref (He.ga K n)) (.type T) = some b)
def bfnB (K : Fr) (n : Str) (id : String) : Bool := decide (PySem.W.nsIn K mainGlobals n = some (some (.builtin id)))
section
variable {K : Fr} {h : Heap} {mg : Str → Option Value}
theorem clsB_ok (X : K.In h) (G : h.Ns mainGlobals mg) {n : Str} (c : clsB K n = true) : mg n = some (.ref (He.ga K n)) ∧ XCls K (He.ga K n) := by
  obtain ⟨h1, h2⟩ := ba2 c
  exact ⟨PySem.W.mg_of X G (of_decide_eq_true h1), xclsB_ok h2⟩
theorem bfnB_ok (X : K.In h) (G : h.Ns mainGlobals mg) {n : Str} {id : String} (c : bfnB K n id = true) : mg n = some (.builtin id) := PySem.W.mg_of X G (of_decide_eq_true c)
end
theorem IsP.one {c : Ct} {n m : Str} {b : Bool} (h1 : c.mg n = some (.ref (He.ga c.K n)) ∧ XCls c.K (He.ga c.K n)) (h2 : kitB1 c.K n m b = true) : IsP c (.ref (He.ga c.K m)) n b := ⟨_, h1.1, h1.2, of_decide_eq_true h2⟩
theorem IsP.typ {c : Ct} {n : Str} {T : String} {b : Bool} (h1 : c.mg n = some (.ref (He.ga c.K n)) ∧ XCls c.K (He.ga c.K n)) (h2 : kitBT c.K n T b = true) : IsP c (.type T) n b := ⟨_, h1.1, h1.2, of_decide_eq_true h2⟩
theorem ExP.one {c : Ct} {n m : Str} {b : Bool} (h1 : c.mg n = some (.ref (He.ga c.K n)) ∧ XCls c.K (He.ga c.K n)) (h2 : exmB c.K n m b = true) : ∀ cls, c.mg n = some cls → PySem.W.exmOne c.K cls (.ref (He.ga c.K m)) = some b := fun cls h => by
  rw [h1.1] at h
  cases h
  exact of_decide_eq_true h2
/-- the Hook with more facts -/
def obsN (n : Nat) (fa : List He.Fa) (fn : List He.DefD) (ex : Fr → Bool) (g : Addr → Option Obj) : AlM := (He.obsD fa fn (He.frG g (He.asD g n)), noLst (He.frG g (He.asD g n)) && ex (He.frG g (He.asD g n)))
def hookN (n : Nat) (fa : List He.Fa) (fn : List He.DefD) (ex : Fr → Bool) : PySem.W.Hook where
  α := AlM
  obs := fun s => obsN n fa fn ex s.heap.get?
  val := fun _ => (He.valD fn, true)
  says := fun _ h => ∃ K : PySem.W.Frag, K.In h ∧ He.SaysD fa fn K ∧ noLst K = true ∧ ex K = true
  of := fun _ _ e => ⟨_, He.frG_in, congrArg (fun z : AlM => z.1) e, (ba2 (congrArg (fun z : AlM => z.2) e)).1, (ba2 (congrArg (fun z : AlM => z.2) e)).2⟩
  keeps := fun _ _ _ ⟨K, hK, c⟩ k => ⟨K, PySem.W.Frag.In.keeps hK k, c⟩
theorem obsN_eq {n : Nat} {fa : List He.Fa} {fn : List He.DefD} {ex : Fr → Bool} {g : Addr → Option Obj} {s : Shared} (h : ∀ a, g a = s.heap.get? a) : obsN n fa fn ex g = (hookN n fa fn ex).obs s := by
  have e : g = s.heap.get? := funext h
  rw [e] <;> rfl

theorem tabE_nil {c : Ct} {cv : Value} : TabOk c [] cv := tab_nil
theorem tabE_cons {c : Ct} {cv : Value} {n : Str} {b : Bool} {m : List (Str × Bool)} (h : ∀ cls, c.mg n = some cls → PySem.W.exmOne c.K cls cv = some b) (r : TabOk c m cv) : TabOk c ((n, b) :: m) cv :=
  tab_cons (P := fun n b => ∀ cls, c.mg n = some cls → PySem.W.exmOne c.K cls cv = some b) h r
theorem tabI_nil {c : Ct} {cv : Value} : TabP (IsP c cv) [] := tab_nil
theorem tabI_cons {c : Ct} {cv : Value} {n : Str} {b : Bool} {m : List (Str × Bool)} (h : IsP c cv n b) (r : TabP (IsP c cv) m) : TabP (IsP c cv) ((n, b) :: m) := tab_cons h r
theorem tabJ_nil {c : Ct} {cv : List Value} : TabP (IsPs c cv) [] := tab_nil
theorem tabJ_cons {c : Ct} {cv : List Value} {n : Str} {b : Bool} {m : List (Str × Bool)} (h : IsPs c cv n b) (r : TabP (IsPs c cv) m) : TabP (IsPs c cv) ((n, b) :: m) := tab_cons h r
/-- several classes, one after the other -/
def KitP (K : Fr) (n : Str) (cv : Value) (b : Bool) : Prop := PySem.W.kitOne K (.ref (He.ga K n)) cv = some b
theorem kitP1 {K : Fr} {n m : Str} {b : Bool} (h : kitB1 K n m b = true) : KitP K n (.ref (He.ga K m)) b := of_decide_eq_true (p := PySem.W.kitOne K _ _ = some b) h
theorem kitPT {K : Fr} {n : Str} {T : String} {b : Bool} (h : kitBT K n T b = true) : KitP K n (.type T) b := of_decide_eq_true (p := PySem.W.kitOne K _ _ = some b) h
theorem any_nil {K : Fr} {n : Str} : PySem.W.kitAny K (.ref (He.ga K n)) [] = some false := rfl
theorem any_yes {K : Fr} {n : Str} {cv : Value} {cvs : List Value} (h : KitP K n cv true) : PySem.W.kitAny K (.ref (He.ga K n)) (cv :: cvs) = some true := kitAny_cons h (fun z => by cases z) fun _ => rfl
theorem any_no {K : Fr} {n : Str} {cv : Value} {cvs : List Value} {b : Bool} (h : KitP K n cv false) (r : PySem.W.kitAny K (.ref (He.ga K n)) cvs = some b) : PySem.W.kitAny K (.ref (He.ga K n)) (cv :: cvs) = some b := kitAny_cons h (fun _ => r) fun z => by cases z
theorem IsPs.of {c : Ct} {n : Str} {cvs : List Value} {b : Bool} (h1 : c.mg n = some (.ref (He.ga c.K n)) ∧ XCls c.K (He.ga c.K n)) (h2 : PySem.W.kitAny c.K (.ref (He.ga c.K n)) cvs = some b) : IsPs c cvs n b := ⟨_, h1.1, h1.2, h2⟩
/-- names of classes as arguments -/
theorem pa_cls {X : Cx} {x : Str} {a : Value} {v : V} {p : Pos} {es : List Expr} {vs : List V} (hg : Gl X x) (hm : X.mg x = some a) (r : RelV v a) (t : PA X es (fun _ H Q => Q vs H)) (hdb : (x == ("__debug__" : Str)) = false := by decide)
    (hs : starEach (.Name x p :: es) X.env = (false, eval (.Name x p) X.env) :: starEach es X.env := by rfl) : PA X (.Name x p :: es) (fun _ H Q => Q (v :: vs) H) :=
  (pa_cons (pe_glob (v := v) hg hm r hdb) t hs).imp fun _ _ _ h => h
theorem pa_none {X : Cx} : PA X [] (fun _ H Q => Q [] H) := pa_nil.imp fun _ _ _ h => h
/-- a module's tuple of flat data -/
theorem reps_flat {K : Fr} {F : Hp} : ∀ {ds : List D}, ds.all flatD = true → Reps K F ds (ds.map toV)
  | [], _ => Reps.nil
  | d :: ds, h => by
    rw [List.all_cons, Bool.and_eq_true] at h
    refine Reps.cons ?_ (reps_flat h.2)
    cases d with
    | non => rfl
    | bl b => rfl
    | int i => rfl
    | str s => rfl
    | _ => cases h.1
theorem e_gtup {X : Cx} {c : Ct} {x : Str} {pos : Pos} {a : Addr} {ds : List D} {vs : List V} (hg : Gl X x) (hm : X.mg x = some (.ref a)) (h : ∀ H, SqT c.K H a vs) (hf : ds.all flatD = true) (hv : vs = ds.map toV) (hd : (x == ("__debug__" : Str)) = false := by decide) :
    PE X (.Name x pos) (tE c (cst (.tup ds))) := e_cst (pe_glob (v := .ref a) hg hm rfl hd) fun F => repTup (h F) (hv ▸ reps_flat hf)
/-- a promise that is asked of nothing -/
theorem fn_bad {P : Program} {w : World} {K : Fr} {mg : Str → Option Value} {base : Heap} {CX : CXT} {k n : Nat} {f : Addr} {fd : FuncData} {ps : List Str} : FnOk P w K mg base CX k f fd ps (spF K mg (fun _ => .bad) n) :=
  ⟨fun vs H Q E ⟨_, _, _, _, _, z⟩ => z.elim, fun A outer s H args us vs Q E _ _ _ _ ⟨_, _, _, _, _, z⟩ => z.elim⟩
end PM
namespace PM
open PySem L2 PyProof.Rows

/-! ### module constants that hold others -/
def vOf : D → Value → V
  | .tup _, .ref a => .ref a
  | d, _ => toV d
mutual
def datB (K : Fr) : D → Value → Bool
  | .tup ds, .ref a => match K.lookup a with
    | some ⟨.type c, _, .seq its _, _⟩ => decide (c = "tuple") && (decide (its.size ≤ sizeLine) && datsB K ds its.toList)
    | _ => false
  | .tup _, _ => false
  | d, u => flatD d && He.relAll [toV d] [u]
def datsB (K : Fr) : List D → List Value → Bool
  | [], [] => true
  | d :: ds, u :: us => datB K d u && datsB K ds us
  | _, _ => false
end
def vsOf : List D → List Value → List V
  | d :: ds, u :: us => vOf d u :: vsOf ds us
  | _, _ => []
theorem relAll1 {v : V} {u : Value} (h : He.relAll [v] [u] = true) : RelV v u := by
  have := He.relAll_ok h
  cases this with
  | cons a b => exact a
mutual
theorem datB_ok {K : Fr} : ∀ (d : D) (u : Value), datB K d u = true → RelV (vOf d u) u ∧ ∀ F, Rep K F d (vOf d u)
  | .non, u, h => by unfold datB at h; exact ⟨relAll1 (ba2 h).2, fun F => rfl⟩
  | .bl b, u, h => by unfold datB at h; exact ⟨relAll1 (ba2 h).2, fun F => rfl⟩
  | .int i, u, h => by unfold datB at h; exact ⟨relAll1 (ba2 h).2, fun F => rfl⟩
  | .str s, u, h => by unfold datB at h; exact ⟨relAll1 (ba2 h).2, fun F => rfl⟩
  | .lst ds, u, h => by unfold datB at h; cases (ba2 h).1
  | .dic ks ds, u, h => by unfold datB at h; cases (ba2 h).1
  | .raw v, u, h => by unfold datB at h; cases (ba2 h).1
  | .tup ds, u, h => by
    unfold datB at h
    split at h
    · rename_i a ds' e
      cases e
      split at h
      · rename_i c dct its ep sl e
        obtain ⟨h1, h2⟩ := ba2 h
        obtain ⟨h2, h3⟩ := ba2 h2
        obtain ⟨r1, r2⟩ := datsB_ok ds its.toList h3
        refine ⟨rfl, fun F => repTup (vs := vsOf ds its.toList) (Or.inr ⟨_, its, ep, e, ?_, rfl, of_decide_eq_true h2, r1⟩) (r2 F)⟩
        rw [of_decide_eq_true h1]
      · cases h
    · cases h
    · cases (ba2 h).1
theorem datsB_ok {K : Fr} : ∀ (ds : List D) (us : List Value), datsB K ds us = true → Vals (vsOf ds us) us ∧ ∀ F, Reps K F ds (vsOf ds us)
  | [], [], _ => ⟨.nil, fun F => Reps.nil⟩
  | [], _ :: _, h => by unfold datsB at h; cases h
  | _ :: _, [], h => by unfold datsB at h; cases h
  | d :: ds, u :: us, h => by
    unfold datsB at h
    obtain ⟨h1, h2⟩ := ba2 h
    obtain ⟨a1, a2⟩ := datB_ok d u h1
    obtain ⟨b1, b2⟩ := datsB_ok ds us h2
    exact ⟨.cons a1 b1, fun F => Reps.cons (a2 F) (b2 F)⟩
end
/-- the name holds the datum -/
def GlD (K : Fr) (mg : Str → Option Value) (x : Str) (d : D) : Prop := ∃ u v, mg x = some u ∧ RelV v u ∧ ∀ F, Rep K F d v
def glB (K : Fr) (x : Str) (d : D) : Bool := match PySem.W.nsIn K mainGlobals x with
  | some (some u) => datB K d u
  | _ => false
theorem glB_ok {K : Fr} {h : Heap} {mg : Str → Option Value} (X : K.In h) (G : h.Ns mainGlobals mg) {x : Str} {d : D} (e : glB K x d = true) : GlD K mg x d := by
  unfold glB at e
  split at e
  · rename_i u q
    obtain ⟨r1, r2⟩ := datB_ok d u e
    exact ⟨u, _, PySem.W.mg_of X G q, r1, r2⟩
  · cases e
theorem e_gdat {X : Cx} {c : Ct} {x : Str} {pos : Pos} {d : D} (hg : Gl X x) (h : GlD c.K X.mg x d) (hd : (x == ("__debug__" : Str)) = false := by decide) : PE X (.Name x pos) (tE c (cst d)) := by
  obtain ⟨u, v, h1, h2, h3⟩ := h
  exact e_cst (pe_glob (v := v) hg h1 h2 hd) h3
end PM
/-! ### an own exception over an own class over ValueError: __init__ says super().__init__(x), self.f = x -/
namespace PM
open PySem L2 PySem.Spec PyProof.Rows NdefX
section
open PySem.W PySem.Calls
variable {prog : Program} {w : World} {M : Model} {A : Around} {E : Value → Shared → Prop} {s : Shared} {h : Heap} {g : Array GenState} {d : Drawn} {t : Nat} {os : OsState}
/-- the wrapper called: ValueError.__init__ of the exception -/
theorem call_mw {nm q : Str} {C N : Addr} {bs bm : List Value} {hdct : Bool} {sn : List Str} {sub : List Value} {ab : Bool} {col : Option Bool} {dd : Option Addr} {k0 k1 k2 k3 k5 : Option Value} {u e t0 : Addr} {rest : List Value} {Q : Value → Shared → Prop}
    (hC : h.get? C = some (excClassObj nm q C N bs bm hdct sn sub ab col dd k0 k1 k2 k3 k5 "ValueError.__new__")) (he : h.get? e = some (HandSPX.excO C t0)) (hu : h.get? u = some (kxs_mw "ValueError.__init__" e)) (hrest : rest.length ≤ sizeLine)
    (hq : ∀ h' t1, (∀ b o, b ≠ e → h.get? b = some o → h'.get? b = some o) → h'.get? e = some (HandSPX.excO C t1) → Q .none ⟨h', g, d, t, os⟩) :
    wpAny (model prog w) A (call (.ref u) rest) Q E ⟨h, g, d, t, os⟩ := by
  refine wpAny_call (codeAny_of_tree ?_)
  show wpAny _ A.in1 (callAny (.ref u) ⟨rest, []⟩) _ _ _
  simp only [callAny]
  refine wpAny_bind (wpAny_load hu ?_)
  simp only [kxs_mw, show (Value.type "method-wrapper" == Value.type "method" || Value.type "method-wrapper" == Value.type "builtin_function_or_method" || Value.type "method-wrapper" == Value.type "method-wrapper") = true by decide, if_true]
  refine W.KFB.if_so (by decide) ?_
  refine wpAny_bind (PySem.ESX.check_bound F.excBase_ValueError hC he rfl ?_)
  refine wpAny_bind (wpAny_pure (wpAny_pure ?_))
  refine ⟨Code.quiet_builtin _ (by decide +kernel), codeAny_builtin F.excBase_ValueError.initEntry ?_⟩
  rw [Around.under_plainId F.excBase_ValueError.init.plain _]
  wp_walk
  refine hq _ h.objs.size (fun b o hb ho => ?_) ?_
  · rw [Heap.get?_update_other _ _ (Ne.symm hb)]
    exact Heap.get?_push_of_some _ ho
  · rw [Heap.get?_update_self _ (Heap.get?_push_of_some _ he) rfl]
    rfl
end
theorem callWith_mw {prog : Program} {w : World} {A : Around} {E : Value → Shared → Prop} {s : Shared} {i : String} {x u : Addr} {pos : Pos} {env : PySem.Env} {e : Expr} {rest : List Expr} {Q : Value → Shared → Prop}
    (h : wpAny (model prog w) A (spliced (backTo pos (starEach (e :: rest) env))) (fun vs s₁ => PySem.W.KxsAt i u x s₁.heap ∧ wpAny (model prog w) A (call (.ref u) vs) Q E s₁) E s)
    (he : starEach (e :: rest) env = (false, eval e env) :: starEach rest env := by rfl) (hplain : (backTo pos (starEach rest env)).any (·.1) = false := by rfl) :
    wpAny (model prog w) A (callWith pos (.ref u) [] (backTo pos (starEach (e :: rest) env)) []) Q E s := by
  rw [he] at h ⊢
  refine PySem.W.kxs_callWith (i := i) (x := x) (by show (false || (backTo pos (starEach rest env)).any (·.1)) = false; rw [hplain]; rfl) ?_
  exact PySem.Calls.evalArgs_plain h
/-- the body -/
def bodyX (p f : Str) (P : Fin 10 → Pos) : List Stmt :=
  [.Expr (.Call (.Attribute (.Call (.Name "super" (P 0)) [] [] (P 1)) "__init__" (P 2)) [.Name p (P 3)] [] (P 4)) (P 5),
   .Assign [.Attribute (.Name "self" (P 6)) f (P 7)] (.Name p (P 8)) (P 9)]

theorem sup_eval {env : PySem.Env} {p0 p1 p2 p3 p4 : Pos} {p : Str} (hpp : (p2.endLine == p4.line) = true) : eval (.Call (.Attribute (.Call (.Name "super" p0) [] [] p1) "__init__" p2) [.Name p p3] [] p4) env = (do
      let ov ← attributeBase (.Call (.Name "super" p0) [] [] p1) "__init__" env (eval (.Call (.Name "super" p0) [] [] p1) env)
      standAt p2.atName
      let (f, first) ← holding [ov] (getMethod ov "__init__" (do return (← importBound (.Call (.Name "super" p0) [] [] p1) env).getD true))
      callWith p4 f first (backTo p4 (starEach [.Name p p3] env)) []) := by
  rw [eval]
  unfold methodCall methodCallPos
  simp only [hpp, Bool.or_true, if_true]
  rfl
/-- what the written part says of the class at C (its __init__ at fI, code at cda, cell at cc) -/
structure SupC (prog : Program) (K : Fr) (mg : Str → Option Value) (C fI cc : Addr) (F : NF) (p f : Str) : Prop where
  T : OexC K C
  fn : ∃ oc od doc pm ctv osl, K.lookup fI = some (⟨oc, od, .func (F.fd doc pm ctv), osl⟩ : Obj)
  cl : F.cl = [(("__class__" : Str), cc)]
  hcd : PySem.W.codeIn K (.ref F.c) F.qual = true
  code : ∃ ccl cdd vs ccs file tf, K.lookup F.c = some (⟨ccl, cdd, .fields vs, ccs⟩ : Obj) ∧ vs[2]? = some (.str file tf) ∧ ((prog.main.file : Str) == file) = true
  cell : ∃ cl cld csl, K.lookup cc = some (⟨cl, cld, .cell (some (.ref C)), csl⟩ : Obj)
  sub : PySem.W.mroIn K C (.ref C) = some true
  ho : PySem.W.nsIn K cStatics "thirdparty.any" = some none
  hm : PySem.W.ks_superIn K C C "__init__" = some (some (.builtin "ValueError.__init__"))
  hB : PySem.W.subIn K (.ref C) (.type "ValueError") = some true
  no : PySem.W.findIn K (.ref C) f = some none
  iC : PySem.W.findIn K (.ref C) "__init__" = some (some (.ref fI))
  tI : PySem.W.typeIn K (.ref fI) = some (.type "function")
  msup : mg "super" = none
  hp1 : (p == ("__debug__" : Str)) = false
  hp2 : (p == ("__classdict__" : Str)) = false
  htop : (prog.main.scope.names.lookup ("super" : Str)).isSome = false
  sc : NScope ([("self" : Str), p, "__class__"] : List Str) ([("self" : Str), p] : List Str) ["__class__"] F.scope
  par : (F.params.posonlyargs ++ F.params.args).head? = some ⟨"self", none, (F.params.args.headD ⟨"", none, ⟨0, 0, 0, 0⟩⟩).pos⟩
  gl : F.scope.names.lookup ("super" : Str) = some .globalImplicit
  body : ∃ P, F.body = bodyX p f P ∧ ((P 2).endLine == (P 4).line) = true
  bind : ∀ (doc pm ctv : Value) (us : List Value), us.length = 2 → bindArgs (F.fd doc pm ctv) ⟨us, []⟩ = pure (([("self" : Str), p] : List Str).zip us)

/-- the promise -/
def spX (C : Addr) (f : Str) : Sp := fun vs H Q _ => ∃ a y, vs = [.ref a, y] ∧ H a = some (exo a C none) ∧ ∀ dx, H dx = none → dx ≠ a → Q .non (L2.upd (L2.upd H dx (exd dx [(f, y)])) a (exo a C (some dx)))

theorem init_ok {CX : CXT} {P : Program} {w : World} {K : Fr} {mg : Str → Option Value} {base : Heap} {C fI cc : Addr} {F : NF} {p f : Str} (S : SupC P K mg C fI cc F p f) {doc pm ctv : Value} {oc : Value} {od : Option Addr} {osl : Array (Option Value)}
    (lk : K.lookup fI = some (⟨oc, od, .func (F.fd doc pm ctv), osl⟩ : Obj)) : FnOk P w K mg base CX 1 fI (F.fd doc pm ctv) ([("self" : Str), p] : List Str) (spX C f) := by
  refine ⟨fun vs H Q E ⟨a, y, e, _⟩ => by rw [e]; rfl, fun A outer s H args us vs Q E hr e0 hb r hsp => ?_⟩
  have hl : vs.length = ([("self" : Str), p] : List Str).length := by obtain ⟨a, y, e, _⟩ := hsp; rw [e]; rfl
  have KX : K.In s.heap := e0.mod.kin.keeps fun b o e => (e0.bs b o e).1
  have lim : s.heap.NoLimit := e0.mod.nolimit.keeps fun b o e => (e0.bs b o e).1
  obtain ⟨cl, cld, csl, hcell⟩ := S.cell
  obtain ⟨ccl, cdd, vsC, ccs, file, tf, hcode, hvs, hfile⟩ := S.code
  have CA : CellsAt F.cl ["__class__"] [none] s.heap H := by
    rw [S.cl]
    refine ⟨rfl, fun y c e => ?_, fun x y c e1 e2 => ?_, fun i y e => ?_⟩
    · have : c = cc := by
        rw [List.lookup_cons] at e
        split at e
        · exact (Option.some.inj e).symm
        · cases e
      subst this
      have hb := e0.mod.kin _ _ hcell
      exact ⟨(e0.bs _ _ hb).2, _, _, (e0.bs _ _ hb).1, rfl⟩
    · have key : ∀ z, (([(("__class__" : Str), cc)] : List (Str × Addr)).lookup z = some c) → z = "__class__" := fun z h => by
        rw [List.lookup_cons] at h
        split at h
        · rename_i q; exact eq_of_beq q
        · cases h
      rw [key x e1, key y e2]
    · cases i with
      | zero =>
        cases e
        exact ⟨cc, rfl, fun v e => by cases e⟩
      | succ i => cases e
  refine ks_codeAny_call_defAt (body := F.body) (binds := ([("self" : Str), p] : List Str).zip us) hr.depth (KX _ _ lk) rfl lim (PySem.W.codeRec_of KX S.hcd) rfl hb S.sc.nocell (fun ⟨n, _⟩ hy => S.sc.par n (List.of_mem_zip hy).1) (fun h₁ hns kp => ?_) S.sc.co S.sc.gen S.sc.kind
  obtain ⟨a, y, ev, ea, hq⟩ := hsp
  subst ev
  have I : Inv (ncx CX P w K mg base ([("self" : Str), p, "__class__"] : List Str) F fI A outer s H E) [] (startF ([("self" : Str), p, "__class__"] : List Str) [.ref a, y] [none]) H { s with heap := h₁, toks := s.toks + (([("self" : Str), p] : List Str).zip us).length } := inv_startN S.sc hr.hd e0 hl r CA hns kp
  obtain ⟨PP, hbody, hpp⟩ := S.body
  show PySem.wpAt (model P w) (A.deeper (envF F fI s.heap.objs.size)) (.func F.body (envF F fI s.heap.objs.size)) (execs F.body (envF F fI s.heap.objs.size)) _ _ _
  have KX1 : K.In h₁ := I.kIn
  obtain ⟨nm, q, N, bs, bm, sn, sub, ab, col, dd, k0, k1, k2, k3, k5, hC, hbm⟩ := S.T.cls
  have hcl : PySem.W.clsIn K C = some { name := nm, bases := bs, mro := .ref C :: bm, ns := N, qualname := q, hasDict := true, slotNames := sn, subclasses := sub, abstract := ab, collection := col, hasDel := false } := by unfold PySem.W.clsIn; rw [hC] <;> rfl
  obtain ⟨t1, ho⟩ := exo_at I.hok ea
  have key : ∀ bd : List Stmt, F.body = bd → bd = bodyX p f PP → PySem.wpAt (model P w) (A.deeper (envF F fI s.heap.objs.size)) (.func bd (envF F fI s.heap.objs.size)) (execs (bodyX p f PP) (envF F fI s.heap.objs.size))
      (fun fl s' => CR CX outer P w H s Q E (.ok (.ret (match fl with | .ret v => v | _ => .none))) s')
      (fun e s' => wpAny (model P w) (A.deeper (envF F fI s.heap.objs.size)) (leaving (envF F fI s.heap.objs.size) e) (fun _ s'' => CR CX outer P w H s Q E (.error e) s'') (fun e' s'' => CR CX outer P w H s Q E (.error e') s'') s')
      { s with heap := h₁, toks := s.toks + (([("self" : Str), p] : List Str).zip us).length } := by
    intro bd _ _
    unfold bodyX
    refine ks_wpAt_execs_cons (ks_wpAt_Expr_any (ks_wpAt_MethodCall (pl := do return (← importBound (.Call (.Name "super" (PP 0)) [] [] (PP 1)) (envF F fI s.heap.objs.size)).getD true) ?_ (sup_eval hpp)) I.quiet)
    have hD := KX1 _ _ hC
    have hfo := KX1 _ _ lk
    refine ks_wpAt_super_base (env := envF F fI s.heap.objs.size) (fd := F.fd doc pm ctv) (cc := F.c) S.gl (S.sc.frk _ (by simp)) (by decide) rfl hfo rfl S.par rfl (KX1 _ _ hcode) rfl hvs hfile S.htop ?_
    obtain ⟨mb, hmb, hbl⟩ := I.mod.blt
    refine PySem.W.ks_loadName_global S.sc.kind S.gl (PySem.Calls.loadGlobal_builtin (env := envF F fI s.heap.objs.size) (I.mod.glob.at fun o e => I.bk _ _ e) S.msup (hmb.at fun o e => I.bk _ _ e) ((hbl _ (by decide)).trans (by decide +kernel)) ⟨rfl, ?_⟩)
    refine wpAny_loadName_free S.sc.kind (S.sc.frk _ (by simp)) (by show F.cl.lookup _ = _; rw [S.cl]; rfl) ⟨_, KX1 _ _ hcell, rfl⟩ ?_
    obtain ⟨u0, u1, rfl⟩ : ∃ u0 u1, us = [u0, u1] := by
      have := r.length
      match us, this with
      | [u0, u1], _ => exact ⟨u0, u1, rfl⟩
    obtain ⟨r0, r1⟩ : RelV (.ref a) u0 ∧ RelV y u1 := by
      cases r with
      | cons h1 h2 => cases h2 with
        | cons h2 h3 => exact ⟨h1, h2⟩
    obtain rfl : u0 = Value.ref a := r0
    have pself : p ≠ "self" := fun z => by
      have := S.sc.nd
      rw [z] at this
      simp at this
    refine wpAny_loadName_local S.sc.kind (S.sc.par "self" (by simp)) hns (v := .ref a) (by
      show ([(("self" : Str), Value.ref a), (p, u1)].reverse).lookup ("self" : Str) = _
      have e : (("self" : Str) == p) = false := by
        cases q : (("self" : Str) == p) with
        | false => rfl
        | true => exact absurd (eq_of_beq q).symm pself
      simp [List.lookup, e]) ?_
    refine ks_wpAny_isType_cls hD rfl ⟨rfl, ?_⟩
    refine ks_wpAny_call_super hD rfl ho rfl (fun c z => by cases z) (PySem.W.looks_mroIn KX1 S.sub) (fun h2 e2 k2 => ?_)
    have J2 := I.kept (t' := s.toks + (([("self" : Str), p] : List Str).zip [Value.ref a, u1]).length) k2
    have IA : PySem.W.InstAt h2 a { cls := .ref C, dict := none, data := .fields #[.ref t1, .none, .none, .none, .bool false, .none] } C none := ⟨k2 _ _ ho, rfl, rfl, trivial⟩
    have KX2 : K.In h2 := J2.kIn
    have hf2 : PySem.W.alongIn K "__init__" (((Value.ref C :: bm).dropWhile (· != .ref C)).drop 1) = some (some (.builtin "ValueError.__init__")) := by
      have z := S.hm
      unfold PySem.W.ks_superIn at z
      rw [hcl] at z
      exact z
    refine PySem.W.kxs_getMethod PySem.W.kxs_ValueError e2 (PySem.W.looks_opaque KX2 S.ho) (l₀ := .ref C :: bm) (fun A Q E s k q => wpAny_bind ((PySem.W.looks_clsIn KX2 hcl) A _ E s k (wpAny_pure q))) rfl KX2 hf2 (IA.type.andThen (PySem.W.looks_subIn KX2 S.hB)) (PySem.W.ks_ne KX2 IA hcl) (by decide) ?_
    have J3 := J2.kept (t' := s.toks + (([("self" : Str), p] : List Str).zip [Value.ref a, u1]).length + 1) (h' := h2.push (PySem.W.kxs_mw "ValueError.__init__" a)) (fun b o e => Heap.get?_push_of_some _ e)
    have hu3 : (h2.push (PySem.W.kxs_mw "ValueError.__init__" a)).get? h2.objs.size = some (PySem.W.kxs_mw "ValueError.__init__" a) := Heap.get?_push_at rfl rfl
    have J3p := J3.pins_of (pins' := [(h2.objs.size, PySem.W.kxs_mw "ValueError.__init__" a)]) (fun q hq => by
      obtain rfl : q = (h2.objs.size, PySem.W.kxs_mw "ValueError.__init__" a) := by simpa using hq
      exact ⟨hu3, J2.fresh, Ne.symm (Nat.ne_of_lt J2.lt), J2.nofs (Nat.le_refl _), fun v z => by cases z⟩)
    have hav : PA (ncx CX P w K mg base ([("self" : Str), p, "__class__"] : List Str) F fI A outer s H E) [.Name p (PP 3)] _ := pa_cons (pe_var (i := 1) rfl (.inl (S.sc.par p (by simp))) S.hp1 S.hp2) pa_nil
    refine callWith_mw (x := a) (i := "ValueError.__init__") (thn (hav.run (PP 4) _ _ _ _ (fun ws H' => ws = [y] ∧ H' = H) J3p ⟨y, rfl, rfl, rfl⟩) fun vs s1 hh => ?_)
    obtain ⟨ws, H1, I1, rv1, rfl, rfl⟩ := hh
    have hu4 := (I1.pin (h2.objs.size, PySem.W.kxs_mw "ValueError.__init__" a) (by simp)).1
    refine ⟨hu4, ?_⟩
    obtain ⟨t4, ho4⟩ := exo_at I1.hok ea
    obtain ⟨h4, g4, d4, tk4, os4⟩ := s1
    have hlen : vs.length ≤ sizeLine := by
      have := rv1.length
      rw [← this]
      show 1 ≤ sizeLine
      decide
    refine call_mw (I1.kIn _ _ hC) ho4 hu4 hlen fun h5 t5 k5 hx5 => ?_
    have I5 := I1.write (t' := tk4) (x := a) (e := a) (o := exo a C none) (by rw [ea]; exact True.intro) (.inl rfl) k5 ⟨_, hx5⟩ (exo_ok hx5)
    have eu : L2.upd H1 a (exo a C none) = H1 := by
      funext b
      by_cases hb : b = a
      · rw [hb, upd_same, ea]
      · rw [upd_ne hb]
    rw [eu] at I5
    have hps : PSs (ncx CX P w K mg base ([("self" : Str), p, "__class__"] : List Str) F fI A outer s H1 E) [.Assign [.Attribute (.Name "self" (PP 6)) f (PP 7)] (.Name p (PP 8)) (PP 9)] _ :=
      pss_one (ps_ost (f := f) (pe_var (i := 0) rfl (.inl (S.sc.par "self" (by simp)))) (pe_var (i := 1) rfl (.inl (S.sc.par p (by simp))) S.hp1 S.hp2))
    refine PySem.wpAt_of_wpAny (wpAny_mono (hps.run _ _ _ _ { nx := fun _ H' => Q .non H', rt := Q } I5 ⟨y, rfl, .ref a, rfl, a, C, rfl, S.T, S.no, .inl ⟨ea, hq⟩⟩) (fun fl s' hs => ?_) fun e s' hs => hs)
    have fin : ∀ {pins : List (Addr × Obj)} {σ' : L2.St} {H' : Hp} {v : V} {u : Value}, Inv (ncx CX P w K mg base ([("self" : Str), p, "__class__"] : List Str) F fI A outer s H1 E) pins σ' H' s' → RelV v u → Q v H' → CE outer P w H1 s Q u s' :=
      fun {pins σ' H' v u} J rv q => ⟨v, H', J.os, J.bare, J.base, J.hok, rv, q⟩
    cases fl with
    | ret u =>
      obtain ⟨v, σ', H', J, rv, q⟩ := hs
      exact fin J rv q
    | next =>
      obtain ⟨σ', H', J, q⟩ := hs
      exact fin (v := V.non) (u := Value.none) J rfl q
    | brk =>
      obtain ⟨_, _, _, q⟩ := hs
      exact False.elim q
    | cont =>
      obtain ⟨_, _, _, q⟩ := hs
      exact False.elim q
  rw [show execs F.body (envF F fI s.heap.objs.size) = execs (bodyX p f PP) (envF F fI s.heap.objs.size) by rw [hbody]]
  exact key F.body rfl hbody

/-! ### read off the written part -/
def clsIni : Stmt → Stmt
  | .ClassDef _ _ _ b _ _ _ _ _ _ _ => b.headD (.Pass ⟨0, 0, 0, 0⟩)
  | s => s
def iniA (K : Fr) (n : Str) : Addr := match PySem.W.findIn K (.ref (He.ga K n)) "__init__" with
  | some (some (.ref f)) => f
  | _ => 0
abbrev IniW : Type := Option (Str × Str × Arguments × FuncBody × Scope × Addr × List Str × Addr)
def iniW (K : Fr) (n : Str) : IniW := match K.lookup (iniA K n) with
  | some ⟨_, _, .func fd, _⟩ => some (fd.name, fd.qualname, fd.params, fd.body, fd.scope, fd.globals, fd.closure.map (·.1), fd.builtins)
  | _ => none
/-- one class: its name, the def of its __init__ -/
structure IniD where
  n : Str
  qual : Str
  params : Arguments
  body : List Stmt
  scope : Scope
def IniD.val (d : IniD) : IniW := some ("__init__", d.qual, d.params, .stmts d.body, d.scope, mainGlobals, ["__class__"], builtinsNs)
def oexB (K : Fr) (C : Addr) : Bool := (match K.lookup C with
  | some ⟨.type "type", _, .cls cd, sl⟩ => (match cd.mro, sl.toList with
    | .ref C' :: bm, [_, _, _, _, some (.builtin n), _] => C' == C && (n == "ValueError.__new__" && (!cd.hasDel && (cd.hasDict && PySem.HandSPX.refsVE bm)))
    | _, _ => false)
  | _ => false) && (decide (PySem.W.findIn K (.ref C) "__setattr__" = some (some (.builtin "object.__setattr__"))) && (decide (PySem.W.subIn K (.ref C) (.type "BaseException") = some true) && (decide (PySem.W.typeIn K (.ref C) = some (.type "type")) && PySem.W.keepIn K (.ref C))))
theorem oexB_ok {K : Fr} {C : Addr} (h : oexB K C = true) : OexC K C := by
  unfold oexB at h
  obtain ⟨h0, h⟩ := ba2 h
  obtain ⟨h1, h⟩ := ba2 h
  obtain ⟨h2, h⟩ := ba2 h
  obtain ⟨h3, h4⟩ := ba2 h
  refine ⟨?_, of_decide_eq_true h1, of_decide_eq_true h2, of_decide_eq_true h3, h4⟩
  split at h0
  · rename_i dd cd sl ho
    split at h0
    · rename_i C' bm k0 k1 k2 k3 n k5 hm hs
      simp only [Bool.and_eq_true, beq_iff_eq, Bool.not_eq_true'] at h0
      obtain ⟨rfl, rfl, hdel, hdc, ht⟩ := h0
      obtain ⟨nm, bs, mro, ns, qn, hd, sn, sub, ab, col, del⟩ := cd
      dsimp only at hm hdel hdc
      subst hm hdel hdc
      have hsl : sl = #[k0, k1, k2, k3, some (.builtin "ValueError.__new__"), k5] := by
        obtain ⟨l⟩ := sl
        simp only at hs
        rw [hs]
      subst hsl
      exact ⟨nm, qn, ns, bs, bm, sn, sub, ab, col, dd, k0, k1, k2, k3, k5, ho, ht⟩
    · cases h0
  · cases h0
def supB (file : Str) (K : Fr) (n qual f : Str) : Bool :=
  (match K.lookup (iniA K n) with
    | some ⟨_, _, .func fd, _⟩ => (match fd.closure, fd.code with
      | [(_, cc)], .ref cda => (match K.lookup cc with | some ⟨_, _, .cell (some (.ref D)), _⟩ => decide (D = He.ga K n) | _ => false) && (PySem.W.codeIn K (.ref cda) qual && ((match K.lookup cda with | some ⟨_, _, .fields vs, _⟩ => (match vs.toList with | _ :: _ :: .str fl _ :: _ => file == fl | _ => false) | _ => false) &&
          ((match fd.defaults with | .none => true | _ => false) && ((match fd.kwdefaults with | .none => true | _ => false) && decide (fd.annotations = none)))))
      | _, _ => false)
    | _ => false) && (oexB K (He.ga K n) && (decide (PySem.W.mroIn K (He.ga K n) (.ref (He.ga K n)) = some true) && (decide (PySem.W.nsIn K cStatics "thirdparty.any" = some none) && (decide (PySem.W.ks_superIn K (He.ga K n) (He.ga K n) "__init__" = some (some (.builtin "ValueError.__init__"))) &&
    (decide (PySem.W.subIn K (.ref (He.ga K n)) (.type "ValueError") = some true) && (decide (PySem.W.findIn K (.ref (He.ga K n)) f = some none) && (decide (PySem.W.findIn K (.ref (He.ga K n)) "__init__" = some (some (.ref (iniA K n)))) && (decide (PySem.W.typeIn K (.ref (iniA K n)) = some (.type "function")) && xfB K (He.ga K n)))))))))
/-- what gen.py shows of the class -/
structure IniS (prog : Program) (d : IniD) (p : Str) (P : Fin 10 → Pos) (f : Str) (file : Str) : Prop where
  file : prog.main.file = file
  hp1 : (p == ("__debug__" : Str)) = false
  hp2 : (p == ("__classdict__" : Str)) = false
  htop : (prog.main.scope.names.lookup ("super" : Str)).isSome = false
  sc : nscB ([("self" : Str), p, "__class__"] : List Str) ([("self" : Str), p] : List Str) ["__class__"] d.scope = true
  par : (d.params.posonlyargs ++ d.params.args).head? = some ⟨"self", none, (d.params.args.headD ⟨"", none, ⟨0, 0, 0, 0⟩⟩).pos⟩
  gl : d.scope.names.lookup ("super" : Str) = some .globalImplicit
  body : d.body = bodyX p f P ∧ ((P 2).endLine == (P 4).line) = true
  bind : ∀ (cc cda : Addr) (doc pm ctv : Value) (us : List Value), us.length = 2 → bindArgs ((NF.mk "__init__" d.qual d.params d.body d.scope [(("__class__" : Str), cc)] cda).fd doc pm ctv) ⟨us, []⟩ = pure (([("self" : Str), p] : List Str).zip us)
/-- the class n may be made of one value, which becomes its field f -/
structure MkX (P : Program) (w : World) (K : Fr) (mg : Str → Option Value) (base : Heap) (CX : CXT) (n p f : Str) : Prop where
  ex : ∃ fd, mg n = some (.ref (He.ga K n)) ∧ FnOk P w K mg base CX 1 (iniA K n) fd ([("self" : Str), p] : List Str) (spX (He.ga K n) f) ∧ Binds K fd ([("self" : Str), p] : List Str) []
  T : OexC K (He.ga K n)
  iC : PySem.W.findIn K (.ref (He.ga K n)) "__init__" = some (some (.ref (iniA K n)))
  tI : PySem.W.typeIn K (.ref (iniA K n)) = some (.type "function")
  xf : XfC K (He.ga K n)
  no : PySem.W.findIn K (.ref (He.ga K n)) f = some none
theorem mkX_ok {P : Program} {w : World} {K : Fr} {mg : Str → Option Value} {base : Heap} {CX : CXT} {d : IniD} {p f file : Str} {PP : Fin 10 → Pos} (S : IniS P d p PP f file) (hw : iniW K d.n = d.val) (hb : supB file K d.n d.qual f = true) (hm : mg d.n = some (.ref (He.ga K d.n))) (hs : mg "super" = none) :
    MkX P w K mg base CX d.n p f := by
  unfold supB at hb
  obtain ⟨h0, hb⟩ := ba2 hb
  obtain ⟨h1, hb⟩ := ba2 hb
  obtain ⟨h2, hb⟩ := ba2 hb
  obtain ⟨h3, hb⟩ := ba2 hb
  obtain ⟨h4, hb⟩ := ba2 hb
  obtain ⟨h5, hb⟩ := ba2 hb
  obtain ⟨h6, hb⟩ := ba2 hb
  obtain ⟨h7, hb⟩ := ba2 hb
  obtain ⟨h8, h9⟩ := ba2 hb
  refine ⟨?_, oexB_ok h1, of_decide_eq_true h7, of_decide_eq_true h8, xfB_ok h9, of_decide_eq_true h6⟩
  unfold iniW at hw
  cases q : K.lookup (iniA K d.n) with
  | none => rw [q] at hw; cases hw
  | some o =>
    obtain ⟨oc, od, dt, osl⟩ := o
    rw [q] at hw h0
    cases dt with
    | func fd =>
      obtain ⟨n1, n2, n3, n4, n5, n6, n7, n8, n9, n10, n11, n12, n13, n14, n15⟩ := fd
      have e2 : (some (n1, n2, n3, n4, n5, n6, n7.map (·.1), n15) : IniW) = (some (("__init__" : Str), d.qual, d.params, FuncBody.stmts d.body, d.scope, mainGlobals, [("__class__" : Str)], builtinsNs) : IniW) := hw
      simp only [Option.some.injEq, Prod.mk.injEq] at e2
      obtain ⟨g1, g2, g3, g4, g5, g6, g7, g8⟩ := e2
      subst g1 g2 g3 g4 g5 g6 g8
      obtain ⟨x, cc, rfl⟩ : ∃ x cc, n7 = [(x, cc)] := by
        match n7, g7 with
        | [(x, cc)], _ => exact ⟨x, cc, rfl⟩
      dsimp only at h0
      cases n13 with
      | ref cda =>
        obtain rfl : x = "__class__" := by simpa using g7
        obtain ⟨a1, h0⟩ := ba2 h0
        obtain ⟨a2, h0⟩ := ba2 h0
        obtain ⟨a3, h0⟩ := ba2 h0
        obtain ⟨a4, h0⟩ := ba2 h0
        obtain ⟨a5, a6⟩ := ba2 h0
        have a6 := of_decide_eq_true a6
        subst a6
        have e8 : n8 = .none := by cases n8 <;> first | rfl | cases a4
        have e9 : n9 = .none := by cases n9 <;> first | rfl | cases a5
        subst e8 e9
        have SC : SupC P K mg (He.ga K d.n) (iniA K d.n) cc (NF.mk "__init__" d.qual d.params d.body d.scope [(("__class__" : Str), cc)] cda) p f := {
          T := oexB_ok h1
          fn := ⟨_, _, _, _, _, _, q⟩
          cl := rfl
          hcd := a2
          code := by
            split at a3
            · rename_i c1 c2 vs c3 hl
              split at a3
              · rename_i u0 u1 fl tf ur hv
                exact ⟨_, _, _, _, _, _, hl, by rw [← Array.getElem?_toList, hv]; rfl, by rw [S.file]; exact a3⟩
              · cases a3
            · cases a3
          cell := by
            split at a1
            · rename_i c1 c2 D c3 hl
              have := of_decide_eq_true a1
              subst this
              exact ⟨_, _, _, hl⟩
            · cases a1
          sub := of_decide_eq_true h2
          ho := of_decide_eq_true h3
          hm := of_decide_eq_true h4
          hB := of_decide_eq_true h5
          no := of_decide_eq_true h6
          iC := of_decide_eq_true h7
          tI := of_decide_eq_true h8
          msup := hs
          hp1 := S.hp1
          hp2 := S.hp2
          htop := S.htop
          sc := nscope_by S.sc
          par := S.par
          gl := S.gl
          body := ⟨PP, S.body⟩
          bind := S.bind cc cda }
        exact ⟨_, hm, init_ok SC q, Binds.all fun us hl => S.bind cc cda _ _ _ us hl⟩
      | _ => cases h0
    | _ => cases h0
/-! ### raise n(e) -/
def raiseF (n f : Str) (A : M D) : SM := A.thenS fun d ρ => .exc ⟨n, [(f, d)]⟩ ρ
section
variable {X : Cx} {c : Ct} {pos pos' p : Pos} {n q f : Str} {e : Expr} {A : M D}
theorem s_raiseF (m : MkX X.prog X.w X.K X.mg X.base (L2.CX X.prog X.w) n q f) (hr : Room 2 X.A) (tk : Takes X c.W) (hc : X.calm = true) (hK : c.K = X.K) (hM : c.mg = X.mg) (hg : Gl X n) (ha : PE X e (tF c A))
    (hdb : (n == ("__debug__" : Str)) = false := by decide) (he : starEach [e] X.env = (false, eval e X.env) :: starEach [] X.env := by rfl) : PS X (.Raise (some (.Call (.Name n p) [e] [] pos)) none pos') (tS c (raiseF n f A)) := by
  obtain ⟨fd, hm, F1, hb⟩ := m.ex
  have ha2 : PA X [e] (tFs c (acons A anil)) := a_cons ha a_nil he
  have hx : Passes (L2.CX X.prog X.w) X (fun _ _ _ => False) := passes_call tk (fun _ _ _ _ h => h.elim)
  refine (ps_raise hc tk (pmk_oex (ds := []) (dvs := []) m.T m.iC m.tI F1 hr hb Paired.nil hx hg hm ha2 hdb he)).imp fun D σ H ⟨F, ρ, S, k⟩ => ⟨F, ρ, S, ?_⟩
  unfold raiseF M.thenS at k
  unfold acons anil M.bind
  cases q1 : A ρ with
  | bad => rw [q1] at k; exact k.elim
  | exc x ρ1 =>
    rw [q1] at k
    exact fun F' H' cls d S' x' => k σ F' H' cls d S' x'
  | ok d ρ1 =>
    rw [q1] at k
    intro vs F1' H1 S1 f1 g1 r1
    obtain ⟨v, r, rfl, r1', r2⟩ := Reps.inv (ds := []) r1
    have r2 := r2.inv0
    subst r2
    refine ⟨by show 1 ≤ 1000; decide, fun a ha => ⟨a, v, rfl, upd_same, fun dx hdx hne => ⟨rfl, dx, [(f, v)], upd_same, ?_, ?_, ?_⟩⟩⟩
    · rw [upd_ne hne, upd_same]
    · rw [upd_ne hne] at hdx; exact hdx
    · have hdx1 : H1 dx = none := by rw [upd_ne hne] at hdx; exact hdx
      have e1 : L2.upd (del (L2.upd (L2.upd (L2.upd H1 a (exo a (He.ga X.K n) none)) dx (exd dx [(f, v)])) a (exo a (He.ga X.K n) (some dx))) a) dx (.xd [(f, v)]) = L2.upd H1 dx (.xd [(f, v)]) := by
        funext b
        by_cases hb : b = dx
        · subst hb; rw [upd_same, upd_same]
        · rw [upd_ne hb, upd_ne hb]
          by_cases hb2 : b = a
          · subst hb2; rw [del_same, ha]
          · rw [del_ne hb2, upd_ne hb2, upd_ne hb, upd_ne hb2]
      rw [e1]
      have G := growT (o := .xd [(f, v)]) S1.fh hdx1
      refine k σ _ _ _ _ (S1.grow G) ⟨by rw [hM]; exact hm, .inr ⟨dx, [v], rfl, upd_same, ?_⟩⟩
      exact Reps.cons (Rep.mono G.f _ _ r1') Reps.nil
end
/-! ### e.f in a suite -/
def fldE (t : List (Str × Bool)) (f : Str) (e : Exn) : M Slot := M.lift (if t.lookup e.cls = some true then (e.fs.lookup f).map fun d => (false, d) else none)
def XfP (c : Ct) (f n : Str) (b : Bool) : Prop := b = true → ∃ C, c.mg n = some (.ref C) ∧ XfC c.K C ∧ PySem.W.findIn c.K (.ref C) f = some none
theorem XfP.of {P : Program} {w : World} {c : Ct} {base : Heap} {CX : CXT} {n p f : Str} (m : MkX P w c.K c.mg base CX n p f) : XfP c f n true := fun _ => by
  obtain ⟨fd, hm, _⟩ := m.ex
  exact ⟨_, hm, m.xf, m.no⟩
theorem zip_lookup {K : Fr} {F : Hp} {f : Str} : ∀ {fs : List (Str × D)} {vs : List V} {d : D}, Reps K F (fs.map (·.2)) vs → fs.lookup f = some d → ∃ v, ((fs.map (·.1)).zip vs).lookup f = some v ∧ Rep K F d v
  | [], vs, d, r, e => by cases e
  | (g, d') :: fs, vs, d, r, e => by
    obtain ⟨v, r', rfl, k1, k2⟩ := r.inv
    rw [List.lookup_cons] at e
    show ∃ v', ((g, v) :: (fs.map (·.1)).zip r').lookup f = some v' ∧ _
    rw [List.lookup_cons]
    split at e
    · rename_i q
      cases e
      exact ⟨v, rfl, k1⟩
    · rename_i q
      obtain ⟨v', e', k'⟩ := zip_lookup k2 e
      exact ⟨v', e', k'⟩
section
variable {X : Cx} {c : Ct} {F0 : Hp} {i : Nat} {a : Addr} {oe : Obj} {cls : Value} {d : Option Addr} {pn : List (Addr × Obj)} {e : Exn} {y f : Str} {p1 pos : Pos} {t : List (Str × Bool)}
theorem e_fld (hz : Zc cls d oe) (hf : ∃ vs, oe.data = .fields vs) (hx : XR c.K c.mg F0 F0 e cls d) (hK : c.K = X.K) (T : TabP (XfP c f) t) (he : PE (X.suite a ((a, oe) :: pn)) (.Name y p1) (tVar i))
    (hb : attributeBase (.Name y p1) f X.env (eval (.Name y p1) X.env) = eval (.Name y p1) X.env := by rfl) : PE (X.suite a ((a, oe) :: pn)) (.Attribute (.Name y p1) f pos) (tE (cS c F0 (some i) a) (fldE t f e)) := by
  by_cases hl : t.lookup e.cls = some true
  · obtain ⟨C, hC, xf, hno⟩ := T _ _ hl rfl
    have e1 := hx.1.symm.trans hC
    cases e1
    refine (pe_xf (X := X) (hK ▸ xf) (hK ▸ hno) hz hf he hb).imp fun σ H Q ⟨F, ρ, S, k⟩ => ⟨.ref a, S.pk i _ rfl, rfl, rfl, ?_⟩
    unfold fldE at k
    rw [if_pos hl] at k
    cases q : e.fs.lookup f with
    | none => rw [q] at k; exact k.elim
    | some dd =>
      rw [q] at k
      rcases hx.2 with ⟨h1, _⟩ | ⟨dx, vs, h2, h3, h4⟩
      · rw [h1] at q; cases q
      · obtain ⟨v, hv, rv⟩ := zip_lookup h4 q
        exact ⟨dx, _, v, h2, S.fh _ _ (S.f0 _ _ h3), hv, k v F H S (Sub.refl _) (Sub.refl _) ⟨Rep.mono S.f0 _ _ rv, fun z => by cases z⟩⟩
  · refine ⟨fun pins s σ H Q I ⟨F, ρ, S, k⟩ => ?_⟩
    unfold fldE at k
    rw [if_neg hl] at k
    exact k.elim
end
/-! ### the hook with these classes -/
abbrev AlO : Type := AlM × List IniW
def frO (g : Addr → Option Obj) (n : Nat) : Fr := He.frG g (He.asD g n ++ [cStatics])
def obsO (n : Nat) (fa : List He.Fa) (fn : List He.DefD) (cs : List IniD) (ex : Fr → Bool) (g : Addr → Option Obj) : AlO := ((He.obsD fa fn (frO g n), noLst (frO g n) && ex (frO g n)), cs.map fun d => iniW (frO g n) d.n)
def hookO (n : Nat) (fa : List He.Fa) (fn : List He.DefD) (cs : List IniD) (ex : Fr → Bool) : PySem.W.Hook where
  α := AlO
  obs := fun s => obsO n fa fn cs ex s.heap.get?
  val := fun _ => ((He.valD fn, true), cs.map IniD.val)
  says := fun _ h => ∃ K : PySem.W.Frag, K.In h ∧ He.SaysD fa fn K ∧ noLst K = true ∧ ex K = true ∧ (cs.map fun d => iniW K d.n) = cs.map IniD.val
  of := fun _ _ e => ⟨_, He.frG_in, congrArg (fun z : AlO => z.1.1) e, (ba2 (congrArg (fun z : AlO => z.1.2) e)).1, (ba2 (congrArg (fun z : AlO => z.1.2) e)).2, congrArg (fun z : AlO => z.2) e⟩
  keeps := fun _ _ _ ⟨K, hK, c⟩ k => ⟨K, PySem.W.Frag.In.keeps hK k, c⟩
theorem obsO_eq {n : Nat} {fa : List He.Fa} {fn : List He.DefD} {cs : List IniD} {ex : Fr → Bool} {g : Addr → Option Obj} {s : Shared} (h : ∀ a, g a = s.heap.get? a) : obsO n fa fn cs ex g = (hookO n fa fn cs ex).obs s := by
  have e : g = s.heap.get? := funext h
  rw [e] <;> rfl
theorem iniW_at {K : Fr} {cs : List IniD} (h : (cs.map fun d => iniW K d.n) = cs.map IniD.val) (i : Nat) {d : IniD} (e : cs[i]? = some d) : iniW K d.n = d.val := by
  have := congrArg (fun l => l[i]?) h
  simpa [e] using this
end PM
/-! ### slices that go backwards -/
namespace PM
open PySem L2 PySem.Spec PyProof.Rows
open PySem.W (krv_range krv_all krv_sliceRange krv_pick krv_bounds)
/-- what x[:up:-1] does -/
def RvR (X : Cx) (up : Option Int) (r : V → Hp → VK → Prop) : Prop := ∀ (pins : List (Addr × Obj)) (s : Shared) (σ : L2.St) (H : Hp) (x : V) (v vl vu vs : Value) (sl : Addr) (Q : VK), Inv X pins σ H s → RelV x v → s.heap.IsSliceOf sl vl vu vs → IsPart vl none → IsPart vu up → IsPart vs (some (-1)) → r x H Q →
  ∃ T id, typeLookup (.type T) "__getitem__" = pure (some (.builtin id)) ∧ s.TypeIs v T ∧ wpAny (model X.prog X.w) X.A (getItem v (.ref sl)) (EP X pins σ Q) X.xe s
theorem RvR.or {X : Cx} {up : Option Int} {r r' : V → Hp → VK → Prop} (h : RvR X up r) (h' : RvR X up r') : RvR X up (fun x H Q => r x H Q ∨ r' x H Q) := fun pins s σ H x v vl vu vs sl Q I rx hs p1 p2 p3 k => by
  rcases k with k | k
  · exact h pins s σ H x v vl vu vs sl Q I rx hs p1 p2 p3 k
  · exact h' pins s σ H x v vl vu vs sl Q I rx hs p1 p2 p3 k
theorem pe_rv {X : Cx} {up : Option Int} {r : V → Hp → VK → Prop} {e : Expr} {hi : Option Expr} {te : TE} {k : Nat} {p1 p2 p3 pos : Pos} (hr : RvR X up r) (he : PE X e te) (hu : PO X hi (fun _ H Q => Q up H)) :
    PE X (.Subscript e (.Slice none hi (some (.UnaryOp .USub (.Constant (.int 1) k p1) p2)) p3) pos) (fun σ H Q => te σ H fun x H1 => r x H1 Q) := by
  refine ⟨fun pins s σ H Q I h => ?_⟩
  refine Subscript_ (thn (he.run pins s σ H _ I h) fun v s1 ⟨x, H1, I1, r1, q1⟩ => ?_)
  have hst : PO X (some (.UnaryOp .USub (.Constant (.int 1) k p1) p2)) (tPart (tUn (rU fun i => .int (-i)) (tC (.int 1)))) := po_some (pe_un un_neg pe_int)
  refine wpAny_Slice (thn (po_none.run pins s1 σ H1 (fun o H2 => o = none ∧ H2 = H1) I1 ⟨rfl, rfl⟩) fun vl s2 ⟨l, H2, I2, pl, el, e2⟩ => ?_)
  subst el e2
  refine thn (hu.run pins s2 σ H2 (fun o H3 => o = up ∧ H3 = H2) I2 ⟨rfl, rfl⟩) fun vu s3 ⟨u, H3, I3, pu, eu, e3⟩ => ?_
  subst eu e3
  refine thn (hst.run pins s3 σ H3 (fun o H4 => o = some (-1) ∧ H4 = H3) I3 ⟨1, rfl, -1, rfl, rfl, rfl⟩) fun vs s4 ⟨o, H4, I4, ps, eo, e4⟩ => ?_
  subst eo e4
  have I5 : Inv X pins σ H4 { s4 with heap := s4.heap.push { cls := .type "slice", data := .fields #[vl, vu, vs] } } := I4.kept (t' := s4.toks) fun b ob q => Heap.get?_push_of_some _ q
  obtain ⟨T, id, hT, ht, hg⟩ := hr pins { s4 with heap := s4.heap.push { cls := .type "slice", data := .fields #[vl, vu, vs] } } σ H4 x v vl vu vs s4.heap.objs.size Q I5 r1 (Heap.IsSliceOf.new ..) pl pu ps q1
  show wpAny (model X.prog X.w) X.A (subscriptTail e (.Slice none hi (some (.UnaryOp .USub (.Constant (.int 1) k p1) p2)) p3) v (.ref s4.heap.objs.size)) (EP X pins σ Q) X.xe { s4 with heap := s4.heap.push { cls := .type "slice", data := .fields #[vl, vu, vs] } }
  exact tail_any (ops := [v, .ref s4.heap.objs.size]) ht hT hg (by with_unfolding_all rfl)
def rRvL (K : Fr) : V → Hp → VK → Prop := fun x H Q => ∃ a xs, x = .ref a ∧ Rd H a (.lst xs) ∧ ∀ p, H p = none → Q (.ref p) (L2.upd H p (.lst xs.reverse))
theorem rv_list {X : Cx} : RvR X none (rRvL X.K) := by
  intro pins s σ H x v vl vu vs sl Q I rx hs p1 p2 p3 h
  obtain ⟨a, xs, rfl, hx, q⟩ := h
  cases rx
  obtain ⟨hz, its, n, r, hl, e⟩ := I.lstR hx
  have ht : PySem.Heap.IsList s.heap a its.toArray := ⟨_, e, rfl, _, rfl⟩
  refine ⟨"list", _, PySem.slot_list_getitem.lookup, ht.typeIs, ?_⟩
  refine wpAny_getItem_list_slice ht hs p1 p2 p3 (by decide) ?_ (by rw [List.size_toArray]; omega)
  rw [krv_pick]
  refine ⟨.ref _, _, I.laid (t' := s.toks) (o := .lst xs.reverse) (fun b ob q => Heap.get?_push_of_some _ q) (Nat.le_refl _) ?_, rfl, q _ (I.hok.fresh (Nat.le_refl _))⟩
  exact ⟨by rw [List.length_reverse]; exact hz, _, 0, r.reverse, Heap.get?_push_size _ rfl⟩
def rRvS : V → Hp → VK → Prop := fun x H Q => ∃ s, x = .str (st s) ∧ s.length ≤ sizeLine ∧ Q (.str (st s.reverse)) H
theorem rv_str {X : Cx} : RvR X none rRvS := by
  intro pins s σ H x v vl vu vs sl Q I rx hs p1 p2 p3 h
  obtain ⟨z, rfl, hz, q⟩ := h
  obtain ⟨t, rfl⟩ := rx
  obtain ⟨os, hos, hcs, hds⟩ := hs
  obtain ⟨l, e1, e1'⟩ := IsPart.raw p1
  obtain ⟨u, e2, e2'⟩ := IsPart.raw p2
  obtain ⟨w, e3, e3'⟩ := IsPart.raw p3
  subst e1 e2 e3
  refine ⟨"str", _, F.slot_str_getitem.lookup, typeIs_str _ _ _, ?_⟩
  refine wpAny_getItem_str_slice (l := l) (u := u) (st := w) ⟨os, hos, hcs, hds⟩ (by rw [e3']; decide) ?_
  have hlen : (st z).length = z.length := by simp [st, Str.length]
  have hp : slicePicked (st z) l u w = (List.range z.length).map fun k => z.length - 1 - k := by
    unfold slicePicked
    rw [e1', e2', e3', hlen]
    exact krv_sliceRange z.length
  have hall : (List.filterMap (fun i => (st z).cps[i]?) (slicePicked (st z) l u w)).toArray = z.reverse.toArray := by
    rw [hp]
    have := krv_range z.length
    rw [this, List.filterMap_reverse]
    have := krv_all z.toArray
    rw [List.size_toArray] at this
    show (List.filterMap (fun i => z.toArray[i]?) (List.range z.length)).reverse.toArray = _
    rw [this]
  show Made.post (if ((w.map (·.1)).getD 1 == 1 && (slicePicked (st z) l u w).length == (st z).length) = true then Made.val (.str (st z) t) else Made.str ⟨(List.filterMap (fun i => (st z).cps[i]?) (slicePicked (st z) l u w)).toArray⟩) (EP X pins σ Q) s
  rw [if_neg (by rw [e3']; simp), hall]
  refine ⟨?_, .str (st z.reverse), H, I.tok _, ⟨_, rfl⟩, q⟩
  show (st z.reverse).length ≤ sizeLine
  simp [st, Str.length]
  exact hz
/-- the places of a tuple's backward slice -/
theorem adj_back (n : Nat) : Builtin.Slice.sliceAdjust none none (-1) (n : Int) = ((n : Int) - 1, -1) := by
  unfold Builtin.Slice.sliceAdjust
  simp
theorem adj_back0 {n : Nat} (h : 0 < n) : Builtin.Slice.sliceAdjust none (some 0) (-1) (n : Int) = ((n : Int) - 1, 0) := by
  unfold Builtin.Slice.sliceAdjust
  simp
  omega
theorem plc_back (a b : Int) : Builtin.Slice.slicePlaces a b (-1) = (a - b).toNat := by
  unfold Builtin.Slice.slicePlaces
  simp
  split <;> omega
theorem pick_back (xs : Array Value) : ∀ (k i : Nat), k ≤ i + 1 → i < xs.size → (List.range k).filterMap (fun (m : Nat) => xs[((i : Int) + (m : Int) * (-1)).toNat]?) = ((xs.toList.take (i + 1)).drop (i + 1 - k)).reverse := by
  intro k
  induction k with
  | zero =>
    intro i _ hi
    rw [List.range_zero, List.filterMap_nil, Nat.sub_zero, List.drop_eq_nil_of_le (by rw [List.length_take]; omega)]
    rfl
  | succ k ih =>
    intro i hk hi
    rw [List.range_succ, List.filterMap_append, ih i (by omega) hi]
    have e : ((i : Int) + (k : Int) * (-1)).toNat = i - k := by omega
    have hl : i - k < xs.toList.length := by rw [Array.length_toList]; omega
    have h1 : List.filterMap (fun (m : Nat) => xs[((i : Int) + (m : Int) * (-1)).toNat]?) [k] = [xs.toList[i - k]] := by
      rw [List.filterMap_cons, e]
      rw [Array.getElem?_eq_getElem (by omega)]
      simp
    rw [h1]
    have h2 : (xs.toList.take (i + 1)).drop (i + 1 - (k + 1)) = xs.toList[i - k] :: (xs.toList.take (i + 1)).drop (i + 1 - k) := by
      have hlt : i + 1 - (k + 1) < (xs.toList.take (i + 1)).length := by rw [List.length_take]; omega
      rw [List.drop_eq_getElem_cons hlt]
      have : i + 1 - (k + 1) + 1 = i + 1 - k := by omega
      rw [this]
      congr 1
      rw [List.getElem_take]
      congr 1
      omega
    rw [h2, List.reverse_cons]
theorem sliceApplied_back {prog : Program} {w : World} {A : Around} {E : Value → Shared → Prop} {s : Shared} {sl : Addr} {vl vu vs : Value} {up : Option Int} {n : Nat} {Q : Int × Int × Nat → Shared → Prop} (hs : s.heap.IsSliceOf sl vl vu vs) (pl : IsPart vl none) (pu : IsPart vu up) (ps : IsPart vs (some (-1)))
    (h : Q ((Builtin.Slice.sliceAdjust none up (-1) (n : Int)).1, -1, Builtin.Slice.slicePlaces (Builtin.Slice.sliceAdjust none up (-1) (n : Int)).1 (Builtin.Slice.sliceAdjust none up (-1) (n : Int)).2 (-1)) s) : wpAny (model prog w) A (Builtin.Slice.sliceApplied (.ref sl) (pure (n : Int))) Q E s := by
  obtain ⟨os, hos, hcs, hds⟩ := id hs
  unfold Builtin.Slice.sliceApplied Builtin.Slice.sliceFields
  refine wpAny_bind (wpAny_bind (wpAny_field hos hds (x := vl) rfl (wpAny_bind (wpAny_field hos hds (x := vu) rfl (wpAny_bind (wpAny_field hos hds (x := vs) rfl (wpAny_pure ?_)))))))
  refine wpAny_bind (HT.slicePart_ ps ?_)
  show wpAny _ _ (if ((-1 : Int) == 0) = true then _ else _) _ _ s
  rw [if_neg (by decide)]
  refine wpAny_bind (HT.slicePart_ pl (wpAny_bind (HT.slicePart_ pu (wpAny_bind (wpAny_pure ?_)))))
  show wpAny _ _ (match Builtin.Slice.sliceAdjust none up (-1) (n : Int) with | (lo, hi) => pure (lo, (-1 : Int), Builtin.Slice.slicePlaces lo hi (-1))) _ _ s
  generalize Builtin.Slice.sliceAdjust none up (-1) (n : Int) = lh at h
  obtain ⟨lo, hi⟩ := lh
  exact wpAny_pure h
def rRvT (K : Fr) : V → Hp → VK → Prop := fun x H Q => ∃ a xs, x = .ref a ∧ SqT K H a xs ∧ ∀ p, H p = none → Q (.ref p) (L2.upd H p (.tup xs.reverse))
def rRv0 (K : Fr) : V → Hp → VK → Prop := fun x H Q => ∃ a xs, x = .ref a ∧ SqT K H a xs ∧ xs ≠ [] ∧ ∀ p, H p = none → Q (.ref p) (L2.upd H p (.tup (xs.drop 1).reverse))
theorem getItem_back {prog : Program} {w : World} {A : Around} {E : Value → Shared → Prop} {s : Shared} {t sl : Addr} {items : Array Value} {vl vu vs : Value} {up : Option Int} {out : List Value} {Q : Value → Shared → Prop} (ht : IsTup s.heap t items) (hs : s.heap.IsSliceOf sl vl vu vs) (pl : IsPart vl none) (pu : IsPart vu up) (ps : IsPart vs (some (-1)))
    (ho : ((List.range (Builtin.Slice.slicePlaces (Builtin.Slice.sliceAdjust none up (-1) (items.size : Int)).1 (Builtin.Slice.sliceAdjust none up (-1) (items.size : Int)).2 (-1))).filterMap fun (m : Nat) => items[((Builtin.Slice.sliceAdjust none up (-1) (items.size : Int)).1 + (m : Int) * (-1)).toNat]?) = out) (hz : out.length ≤ sizeLine)
    (h : Q (.ref s.heap.objs.size) { s with heap := s.heap.push { cls := .type "tuple", data := .seq out.toArray } }) : wpAny (model prog w) A (getItem (.ref t) (.ref sl)) Q E s := by
  have htake : sizeOk (.seq out.toArray) := by
    show out.toArray.size ≤ sizeLine
    rw [List.size_toArray]
    exact hz
  obtain ⟨os, hos, hcs, hds⟩ := id hs
  have hTs : s.TypeIs (.ref sl) "slice" := ⟨os, hos, hcs⟩
  unfold getItem
  try with_reducible refine wpAny_holding ?_
  first | refine wpAny_bind (wpAny_pure ?_) | skip
  refine wpAny_bind (wpAny_sequenceKey ht.typeIs (by decide) ?_)
  refine wpAny_bind (wpAny_callSpecial?_slot (name := Str.ofString "__getitem__") ht.typeIs PyProof.Rows.slot_tuple_getitem
    (wpAny_call_entry PyProof.Rows.slot_tuple_getitem ht.typeIs entry_tuple_getitem ?_ (args_tuple_getitem _ _)))
  show wpAny _ _ (Builtin.Tuple.tupleItemsOf (.ref t) >>= _) _ _ s
  refine wpAny_bind (tupleItemsOf_ ht ?_)
  refine wpAny_bind (wpAny_typeOf hTs ?_)
  rw [if_pos (by decide)]
  refine wpAny_bind (sliceApplied_back hs pl pu ps ?_)
  generalize Builtin.Slice.sliceAdjust none up (-1) (items.size : Int) = lh at *
  have hno : ¬ ((lh.1 == 0 && (-1 : Int) == 1 && Builtin.Slice.slicePlaces lh.1 lh.2 (-1) == items.size) = true) := by
    intro q
    rw [Bool.and_eq_true, Bool.and_eq_true] at q
    exact absurd q.1.2 (by decide)
  show wpAny _ _ (if (lh.1 == 0 && (-1 : Int) == 1 && Builtin.Slice.slicePlaces lh.1 lh.2 (-1) == items.size) = true then _ else _) _ _ s
  rw [if_neg hno]
  have ho2 : ((List.range (Builtin.Slice.slicePlaces lh.1 lh.2 (-1))).filterMap fun (m : Nat) => items[(lh.1 + (m : Int) * (-1)).toNat]?).toArray = out.toArray := by rw [ho]
  rw [ho2]
  first
    | exact wpAny_bind (m := Builtin.Tuple.tupleExact _) (wpAny_newObj_type (wpAny_pure ⟨_, rfl, wpAny_pure h⟩) htake)
    | exact wpAny_bind (m := Builtin.Tuple.tupleExact _) (wpAny_newObj_type (wpAny_bind (wpAny_pure (wpAny_pure ⟨_, rfl, wpAny_pure h⟩))) htake)
    | exact wpAny_bind (wpAny_bind (m := Builtin.Tuple.tupleExact _) (wpAny_newObj_type (wpAny_pure (wpAny_pure ⟨_, rfl, wpAny_pure h⟩)) htake))
    | exact wpAny_bind (wpAny_bind (m := Builtin.Tuple.tupleExact _) (wpAny_newObj_type (wpAny_pure ⟨_, rfl, wpAny_pure h⟩) htake))
theorem out_back (items : Array Value) : ((List.range (Builtin.Slice.slicePlaces (Builtin.Slice.sliceAdjust none none (-1) (items.size : Int)).1 (Builtin.Slice.sliceAdjust none none (-1) (items.size : Int)).2 (-1))).filterMap fun (m : Nat) => items[((Builtin.Slice.sliceAdjust none none (-1) (items.size : Int)).1 + (m : Int) * (-1)).toNat]?) = items.toList.reverse := by
  rw [adj_back, plc_back]
  by_cases h : items.size = 0
  · have : items = #[] := Array.eq_empty_of_size_eq_zero h
    subst this
    rfl
  · have e : ((items.size : Int) - 1 - -1).toNat = items.size := by omega
    have e2 : ((items.size : Int) - 1) = ((items.size - 1 : Nat) : Int) := by omega
    rw [e, e2, pick_back items items.size (items.size - 1) (by omega) (by omega)]
    rw [show items.size - 1 + 1 = items.size by omega, Nat.sub_self, List.drop_zero, List.take_of_length_le (by rw [Array.length_toList]; exact Nat.le_refl _)]
theorem out_back0 (items : Array Value) (h : 0 < items.size) : ((List.range (Builtin.Slice.slicePlaces (Builtin.Slice.sliceAdjust none (some 0) (-1) (items.size : Int)).1 (Builtin.Slice.sliceAdjust none (some 0) (-1) (items.size : Int)).2 (-1))).filterMap fun (m : Nat) => items[((Builtin.Slice.sliceAdjust none (some 0) (-1) (items.size : Int)).1 + (m : Int) * (-1)).toNat]?) = (items.toList.drop 1).reverse := by
  rw [adj_back0 h, plc_back]
  have e : ((items.size : Int) - 1 - 0).toNat = items.size - 1 := by omega
  have e2 : ((items.size : Int) - 1) = ((items.size - 1 : Nat) : Int) := by omega
  rw [e, e2, pick_back items (items.size - 1) (items.size - 1) (by omega) (by omega)]
  rw [show items.size - 1 + 1 = items.size by omega, show items.size - (items.size - 1) = 1 by omega, List.take_of_length_le (by rw [Array.length_toList]; exact Nat.le_refl _)]
theorem rv_tup {X : Cx} : RvR X none (rRvT X.K) := by
  intro pins s σ H x v vl vu vs sl Q I rx hs p1 p2 p3 h
  obtain ⟨a, xs, rfl, hx, q⟩ := h
  cases rx
  obtain ⟨its, r, ht, hz⟩ := I.tuple hx
  refine ⟨"tuple", _, PyProof.Rows.slot_tuple_getitem.lookup, ht.typeIs, ?_⟩
  refine getItem_back ht hs p1 p2 p3 (out_back its.toArray) (by rw [List.length_reverse, ← r.length]; exact hz) ?_
  refine ⟨.ref _, _, I.laid (t' := s.toks) (o := .tup xs.reverse) (fun b ob q => Heap.get?_push_of_some _ q) (Nat.le_refl _) ?_, rfl, q _ (I.hok.fresh (Nat.le_refl _))⟩
  exact ⟨by rw [List.length_reverse]; exact hz, _, r.reverse, IsTup.new _ _⟩
theorem rv_tup0 {X : Cx} : RvR X (some 0) (rRv0 X.K) := by
  intro pins s σ H x v vl vu vs sl Q I rx hs p1 p2 p3 h
  obtain ⟨a, xs, rfl, hx, hne, q⟩ := h
  cases rx
  obtain ⟨its, r, ht, hz⟩ := I.tuple hx
  have hpos : 0 < its.toArray.size := by
    rw [List.size_toArray, ← r.length]
    exact List.length_pos_iff.mpr hne
  refine ⟨"tuple", _, PyProof.Rows.slot_tuple_getitem.lookup, ht.typeIs, ?_⟩
  refine getItem_back ht hs p1 p2 p3 (out_back0 its.toArray hpos) (by rw [List.length_reverse, List.length_drop, ← r.length]; omega) ?_
  refine ⟨.ref _, _, I.laid (t' := s.toks) (o := .tup (xs.drop 1).reverse) (fun b ob q => Heap.get?_push_of_some _ q) (Nat.le_refl _) ?_, rfl, q _ (I.hok.fresh (Nat.le_refl _))⟩
  exact ⟨by rw [List.length_reverse, List.length_drop]; omega, _, (r.drop 1).reverse, IsTup.new _ _⟩
/-! ### on data -/
theorem Reps.reverse {K : Fr} {F : Hp} : ∀ {ds : List D} {vs : List V}, Reps K F ds vs → Reps K F ds.reverse vs.reverse
  | [], vs, h => by rw [h.inv0]; exact Reps.nil
  | d :: ds, vs, h => by
    obtain ⟨v, r, rfl, k1, k2⟩ := h.inv
    rw [List.reverse_cons, List.reverse_cons]
    exact k2.reverse.append (Reps.cons k1 Reps.nil)
def revD : D → Option Slot
  | .lst xs => some (true, .lst xs.reverse)
  | .tup xs => some (false, .tup xs.reverse)
  | .str s => if s.length ≤ sizeLine then some (false, .str s.reverse) else none
  | _ => none
def rev0D : D → Option Slot
  | .tup (x :: xs) => some (false, .tup xs.reverse)
  | _ => none
def rRvA (K : Fr) : V → Hp → VK → Prop := fun x H Q => rRvL K x H Q ∨ (rRvT K x H Q ∨ rRvS x H Q)
section
variable {X : Cx} {c : Ct} {e : Expr} {p1 p2 p3 pos : Pos} {k : Nat} {A : M D}
theorem e_rev (hk : c.K = X.K) (he : PE X e (tP c A)) : PE X (.Subscript e (.Slice none none (some (.UnaryOp .USub (.Constant (.int 1) k p1) p2)) p3) pos) (tE c (una revD A)) := by
  refine (pe_rv (r := rRvA X.K) (RvR.or rv_list (RvR.or rv_tup rv_str)) he po_none).imp fun σ H Q ⟨F, ρ, S, a⟩ => ⟨F, ρ, S, a.step fun d ρ1 x F1 H1 S1 r1 f1 h1 a1 => ?_⟩
  obtain ⟨s, e, q⟩ := a1.lift S1
  unfold revD at e
  split at e
  · cases e
    obtain ⟨p, vs, rfl, g1, g2⟩ := r1
    exact .inl ⟨p, vs, rfl, g1, fun p hp => vnL S1.fh hp g2.reverse q⟩
  · cases e
    obtain ⟨p, vs, rfl, g1, g2⟩ := pkTup r1
    exact .inr (.inl ⟨p, vs, rfl, hk ▸ S1.fh.sqT g1, fun p hp => vnT S1.fh hp g2.reverse q⟩)
  · split at e
    · cases e
      rename_i hz
      exact .inr (.inr ⟨_, r1, hz, vnS S1.fh q⟩)
    · cases e
  · cases e
theorem e_rev0 {j : Nat} {p4 : Pos} (hk : c.K = X.K) (he : PE X e (tP c A)) : PE X (.Subscript e (.Slice none (some (.Constant (.int 0) j p4)) (some (.UnaryOp .USub (.Constant (.int 1) k p1) p2)) p3) pos) (tE c (una rev0D A)) := by
  refine (pe_rv (r := rRv0 X.K) rv_tup0 he (⟨fun pins s σ H Q I h => (po_some pe_int).run pins s σ H Q I ⟨0, rfl, h⟩⟩)).imp fun σ H Q ⟨F, ρ, S, a⟩ => ⟨F, ρ, S, a.step fun d ρ1 x F1 H1 S1 r1 f1 h1 a1 => ?_⟩
  obtain ⟨s, e, q⟩ := a1.lift S1
  unfold rev0D at e
  split at e
  · cases e
    obtain ⟨p, vs, rfl, g1, g2⟩ := pkTup r1
    obtain ⟨v, r, rfl, g3, g4⟩ := g2.inv
    exact ⟨p, _, rfl, hk ▸ S1.fh.sqT g1, by simp, fun p hp => vnT S1.fh hp g4.reverse q⟩
  · cases e
end
end PM
/-! ### extend, range with a step, an empty dict -/
namespace PM
open PySem L2 PySem.Spec PyProof.Rows
def extS (j : Nat) (A : M Slot) : SM := fun ρ => match ρ[j]? with
  | some (some (true, .lst _)) => (A.thenS fun s ρ2 => match s, ρ2[j]? with
    | (true, .lst zs), some (some (true, .lst xs)) => if xs.length + zs.length ≤ sizeLine then .nx (ρ2.set j (some (true, .lst (xs ++ zs)))) else .bad
    | _, _ => .bad) ρ
  | _ => .bad
section
variable {X : Cx} {c : Ct} {e : Expr} {pos p : Pos} {tg : Expr}
theorem s_ext {j : Nat} {x : Str} {A : M Slot} {px apos cpos : Pos} (hK : c.K = X.K) (hx : PE X (.Name x px) (tVar j)) (he : PE X e (tE c A))
    (hsw : swapsWith (.Call (.Attribute (.Name x px) "extend" apos) [e] [] cpos) none pos.line X.env = pure false := by rfl)
    (hbase : attributeBase (.Name x px) "extend" X.env (eval (.Name x px) X.env) = eval (.Name x px) X.env := by rfl)
    (hfew : ((backTo cpos (starEach [e] X.env)).all (fun x => !x.1) && (backToKw cpos (keywordEach [] X.env)).all (fun x => x.1.isSome)
      && decide ([e].length + ([] : List Keyword).length + (if ([] : List Keyword).isEmpty then 0 else 1) < 30)) = true := by rfl)
    (hline : (apos.endLine == cpos.line) = true := by rfl) (hs : starEach [e] X.env = (false, eval e X.env) :: starEach [] X.env := by rfl) (hplain : (backTo cpos (starEach [] X.env)).any (·.1) = false := by rfl) :
    PS X (.Expr (.Call (.Attribute (.Name x px) "extend" apos) [e] [] cpos) pos) (tS c (extS j A)) := by
  refine (ps_expr (pe_bm PySem.F.plainAttrs_list PySem.F.slot_list_extend PySem.F.type_list_extend mt_extend hx (pa_cons he pa_nil hs) hbase hfew hline hs hplain) hsw).imp fun D σ H ⟨F, ρ, S, k⟩ => ?_
  unfold extS at k
  split at k
  · rename_i ys e0
    obtain ⟨u, e1, p, rfl, _, _, us, hu, ru⟩ := S.sl j _ e0
    refine ⟨.ref p, e1, .inl ⟨rfl, us, .inl (.inl hu)⟩, F, ρ, S, k.step fun s ρ2 v F2 H2 S2 r2 f2 h2 a2 => ?_⟩
    split at a2
    · rename_i zs xs e2
      split at a2
      · rename_i hz
        obtain ⟨⟨b, rfl, fb, bb, vs2, hb, rb⟩, hne⟩ := r2
        obtain ⟨u', e3, p', ep, _, _, us2, hu2, ru2⟩ := S2.sl j _ e2
        rw [e1] at e3; cases e3; cases ep
        refine ⟨p, b, us2, vs2, rfl, rfl, hu2, hb, by rw [← ru2.length, ← rb.length]; exact hz, ?_⟩
        exact a2 σ F2 _ (S2.upd e2 e1 ⟨_, upd_same, ru2.append rb⟩)
      · exact a2.elim
    · exact a2.elim
  · exact k.elim
/-- range(i, j, c) -/
def intsC (lo c : Int) (n : Nat) : List D := (List.range n).map fun (i : Nat) => D.int (lo + (i : Int) * c)
theorem jok_rangeC {K : Fr} {C F1 : Hp} {lo c : Int} {n : Nat} : JOk K C F1 (Itc lo c n) (intsC lo c n) where
  go := fun i H h hi => by
    show i < n
    simpa [intsC] using hi
  yld := fun i F H x H' h f fh hi y => by
    obtain ⟨rfl, rfl⟩ := y
    have hi : i < n := by simpa [intsC] using hi
    exact ⟨F, .int (lo + i * c), Grow.refl fh, by unfold intsC; rw [List.getElem?_map, List.getElem?_range hi]; rfl, rfl⟩
  stop := fun i H h hi => by
    show n ≤ i
    simpa [intsC] using hi
def rgOk (i j c : Int) : Bool := decide (c ≠ 0) && (decide (c.natAbs < 1073741824) && (Builtin.Range.small i j c && decide (0 ≤ Builtin.Range.rangeSize i j c)))
def rng3 (R : M (List D)) : M (List D) := R.bind fun ds => M.lift (match ds with | [.int i, .int j, .int c] => if rgOk i j c = true then some (intsC i c (Builtin.Range.rangeSize i j c).toNat) else none | _ => none)
theorem PkRs.three {K : Fr} {F H : Hp} {d d' d'' : D} {xs : List V} (h : PkRs K F H [d, d', d''] xs) : ∃ x y z, xs = [x, y, z] ∧ PkR K F H d x ∧ PkR K F H d' y ∧ PkR K F H d'' z := by
  obtain ⟨v, r, rfl, k, h2⟩ := h
  obtain ⟨y, z, rfl, k2, k3⟩ := PkRs.two h2
  exact ⟨v, y, z, rfl, k, k2, k3⟩
theorem rng3_tr {R : M (List D)} {Rel : Hp → Hp → L2.St → Env → List D → It → Prop} (hR : ∀ F H σ ρ lo c n, Rel F H σ ρ (intsC lo c n) (Itc lo c n)) {σ : L2.St} {H : Hp} {Q : It → Hp → Prop} (h : tG c Rel (rng3 R) σ H Q) : iRng3 (tPs c R) σ H Q := by
  obtain ⟨F, ρ, S, k⟩ := h
  refine ⟨F, ρ, S, k.step fun ds ρ1 xs F1 H1 S1 r1 f1 h1 a1 => ?_⟩
  obtain ⟨as, e, q⟩ := a1.liftA S1
  split at e
  · split at e
    · cases e
      rename_i hj
      obtain ⟨x, y, z, rfl, r2, r3, r4⟩ := PkRs.three r1
      have r2 : x = .int _ := r2
      have r3 : y = .int _ := r3
      have r4 : z = .int _ := r4
      subst r2 r3 r4
      obtain ⟨g1, g2⟩ := ba2 hj
      obtain ⟨g3, g4⟩ := ba2 g2
      obtain ⟨g5, g6⟩ := ba2 g4
      exact ⟨_, _, _, _, rfl, ⟨of_decide_eq_true g1, of_decide_eq_true g3, g5, (Int.toNat_of_nonneg (of_decide_eq_true g6)).symm⟩, q _ F1 H1 (Grow.refl S1.fh) (hR _ _ _ _ _ _ _)⟩
    · cases e
  · cases e
theorem j_rng3 {R : M (List D)} {a b d : Expr} (hg : Gl X "range") (hm : X.mg "range" = none) (ha : PA X [a, b, d] (tPs c R)) (hs : starEach [a, b, d] X.env = (false, eval a X.env) :: starEach [b, d] X.env := by rfl) (hs2 : (backTo pos (starEach [b, d] X.env)).any (·.1) = false := by rfl) :
    PI X tg (.Call (.Name "range" p) [a, b, d] [] pos) (tJ c (rng3 R)) := (pi_range3 hg hm ha hs hs2).imp fun _ _ _ h => rng3_tr (fun _ _ _ _ _ _ _ => jok_rangeC) h
theorem k_rng3 {R : M (List D)} {a b d : Expr} (hg : Gl X "range") (hm : X.mg "range" = none) (ha : PA X [a, b, d] (tPs c R)) (hs : starEach [a, b, d] X.env = (false, eval a X.env) :: starEach [b, d] X.env := by rfl) (hs2 : (backTo pos (starEach [b, d] X.env)).any (·.1) = false := by rfl) :
    PI X tg (.Call (.Name "range" p) [a, b, d] [] pos) (tK c (rng3 R)) := (pi_range3 hg hm ha hs hs2).imp fun _ _ _ h => rng3_tr (fun _ _ _ _ _ _ _ => jok_rangeC) h
/-- {} -/
theorem e_dict0 : PE X (.Dict [] [] pos) (tE c (PM.ret (true, .dic [] []))) := pe_dnewK.imp fun σ H Q ⟨F, ρ, S, k⟩ => fun a ha => by
  refine k (.ref a) F _ (S.grow (F' := F) (H' := L2.upd H a (.dK [])) ⟨Sub.refl _, Sub.upd ha, S.fh.trans (Sub.upd ha), fun _ _ e => .inl e⟩) (Sub.refl _) (Sub.upd ha) ?_
  refine VN.vr (c := c) (H := H) (F := F) ⟨a, rfl, ha, S.fh.none ha, [], upd_same, rfl, Reps.nil⟩ S
end
end PM
/-! ### x ** 2 of a great x, math.isqrt -/
namespace PM
open PySem L2 PySem.Spec PyProof.Rows PySem.Calls
def CPow2 (i j : Int) : Prop := j = 2 ∧ i.natAbs.log2 < 1000000
def pow2D : D → D → Option Slot
  | .int i, .int j => if j = 2 ∧ i.natAbs.log2 < 1000000 then some (false, .int (i * i)) else none
  | _, _ => none
section
variable {X : Cx} {K : Fr}
theorem op_pow2 : OpR X (binaryOp .Pow) (rI CPow2 fun i j => .int (i * i)) := opI fun i j t u s Q E hc q => by
  obtain ⟨rfl, h⟩ := hc
  refine pow_int (by decide) ?_ ?_
  · unfold Builtin.Int.intBits
    split
    · decide
    · omega
  · have e : i ^ (2 : Int).toNat = i * i := by show i ^ 2 = _; rw [Int.pow_succ, Int.pow_succ, Int.pow_zero, Int.one_mul]
    rw [e]
    exact q
theorem ok_pow2 : OpOk K pow2D (rI CPow2 fun i j => .int (i * i)) := by
  intro F H d1 d2 x y s Q fh r1 r2 e k
  unfold pow2D at e
  split at e
  · split at e
    · cases e
      rename_i hm
      exact ⟨_, _, r1, r2, hm, vnI fh k⟩
    · cases e
  · cases e
def rIsq : List V → Hp → VK → Prop := fun vs H Q => ∃ a : Int, vs = [.int a] ∧ (0 ≤ a ∧ a.natAbs.log2 < 10000) ∧ Q (.int ((Float64.isqrt a.toNat : Nat) : Int)) H
theorem cr_isqrt : CallR X (.builtin "math.isqrt") rIsq := by
  intro pins s σ H vs us Q I r h
  obtain ⟨a, rfl, ⟨h0, h1⟩, q⟩ := h
  obtain ⟨t, rfl⟩ : ∃ t, us = [Value.int a t] := by
    cases r with
    | cons r t =>
      cases t
      obtain ⟨t, rfl⟩ := r
      exact ⟨t, rfl⟩
  have e : a.toNat = a.natAbs := by omega
  have h1 : a.toNat.log2 < 10000 := by rw [e]; exact h1
  exact call_function_meets PySem.W.MGF.kind_isqrt PySem.W.MGF.plain_isqrt PySem.W.MGF.entry_isqrt (PySem.W.MGF.args_isqrt _) (PySem.W.mg_run_isqrt a t (by omega) (by omega) (by omega)).meets ⟨.int _, H, I.tok _, ⟨_, rfl⟩, q⟩
def isqD : List D → Option Slot
  | [.int i] => if 0 ≤ i ∧ i.natAbs.log2 < 10000 then some (false, .int ((Float64.isqrt i.toNat : Nat) : Int)) else none
  | _ => none
theorem ok_isqrt : CallOk K isqD rIsq := by
  intro F H ds xs s Q fh r e k
  unfold isqD at e
  split at e
  · split at e
    · cases e
      rename_i hm
      obtain ⟨x, rfl, r1⟩ := r.one
      have r1 : x = .int _ := r1
      subst r1
      exact ⟨_, rfl, hm, vnI fh k⟩
    · cases e
  · cases e
end

theorem root_step {n r k : Nat} (hk : 4 ≤ 4 ^ k) (hd : (4 ^ k) * (4 ^ k) ≤ 2 * n) (h1 : r * r ≤ n / 4 ^ k) (h2 : n / 4 ^ k < (r + 1) * (r + 1)) :
    let x := (r + 1) * 2 ^ k
    let y := (x + n / x) / 2
    (if y * y > n then y - 1 else y) * (if y * y > n then y - 1 else y) ≤ n ∧ n < ((if y * y > n then y - 1 else y) + 1) * ((if y * y > n then y - 1 else y) + 1) := by
  intro x y
  have e4 : 4 ^ k = 2 ^ k * 2 ^ k := by rw [show (4 : Nat) = 2 * 2 from rfl, Nat.mul_pow]
  have dp : 0 < 2 ^ k := Nat.two_pow_pos k
  rw [e4] at hk hd h1 h2
  have hx : x = r * 2 ^ k + 2 ^ k := by show (r + 1) * 2 ^ k = _; rw [Nat.add_mul, Nat.one_mul]
  have a1 : r * r * (2 ^ k * 2 ^ k) ≤ n := (Nat.le_div_iff_mul_le (Nat.mul_pos dp dp)).mp h1
  have a2 : n < (r + 1) * (r + 1) * (2 ^ k * 2 ^ k) := (Nat.div_lt_iff_lt_mul (Nat.mul_pos dp dp)).mp h2
  have xp : 0 < x := by omega
  generalize hdd : 2 ^ k = d at *
  have q1 : x * (n / x) ≤ n := Nat.mul_div_le n x
  have q2 : n < x * (n / x + 1) := Nat.lt_mul_div_succ n xp
  have y1 : x + n / x ≤ 2 * y + 1 := by show _ ≤ 2 * ((x + n / x) / 2) + 1; omega
  have y2 : 2 * y ≤ x + n / x := by show 2 * ((x + n / x) / 2) ≤ _; omega
  generalize n / x = q at *
  clear_value y
  have b1 : n < x * x := by
    have : x * x = (r + 1) * (r + 1) * (d * d) := by rw [hx]; grind
    omega
  clear_value x
  have hqx : q < x := by
    rcases Nat.lt_or_ge q x with h | h
    · exact h
    · have := Nat.mul_le_mul_left x h
      omega
  have hq : x ≤ q + 2 * d := by
    rcases Nat.lt_or_ge x (2 * d) with h | h
    · omega
    · -- x (x - 2d) ≤ n
      have : x * (x - 2 * d) ≤ r * r * (d * d) := by
        obtain ⟨e, rfl⟩ : ∃ e, x = e + 2 * d := ⟨x - 2 * d, by omega⟩
        have : r * d = e + d := by omega
        have e2 : r * r * (d * d) = (r * d) * (r * d) := by grind
        rw [e2, this, Nat.add_sub_cancel]
        have : (e + 2 * d) * e + d * d = (e + d) * (e + d) := by grind
        omega
      have h3 : x * (x - 2 * d) < x * (q + 1) := by omega
      have := Nat.lt_of_mul_lt_mul_left h3
      omega
  have big : d * d + 2 ≤ x + q + 1 := by
    rcases Nat.lt_or_ge (x + q + 1) (d * d + 2) with h | h
    · exfalso
      have h4 : x + q + 1 ≤ d * d + 1 := by omega
      have h5 := Nat.mul_le_mul h4 h4
      have h6 : 4 * (x * (q + 1)) ≤ (x + q + 1) * (x + q + 1) := by
        obtain ⟨e, rfl⟩ : ∃ e, x = q + 1 + e := ⟨x - (q + 1), by omega⟩
        have : (q + 1 + e + q + 1) * (q + 1 + e + q + 1) = 4 * ((q + 1 + e) * (q + 1)) + e * e := by grind
        omega
      generalize d * d = D at *
      have : (D + 1) * (D + 1) = D * D + 2 * D + 1 := by grind
      have h7 : D * D < 2 * D + 1 := by omega
      have : 4 * D ≤ D * D := Nat.mul_le_mul_right D hk
      omega
    · exact h
  have up : n < (y + 1) * (y + 1) := by
    have h6 : 4 * (x * (q + 1)) ≤ (x + q + 1) * (x + q + 1) := by
      obtain ⟨e, rfl⟩ : ∃ e, x = q + 1 + e := ⟨x - (q + 1), by omega⟩
      have : (q + 1 + e + q + 1) * (q + 1 + e + q + 1) = 4 * ((q + 1 + e) * (q + 1)) + e * e := by grind
      omega
    have h7 : x + q + 1 ≤ 2 * (y + 1) := by omega
    have h8 := Nat.mul_le_mul h7 h7
    have : 2 * (y + 1) * (2 * (y + 1)) = 4 * ((y + 1) * (y + 1)) := by grind
    omega
  split
  · rename_i hy
    obtain ⟨z, rfl⟩ : ∃ z, y = z + 1 := ⟨y - 1, by
      rcases Nat.eq_zero_or_pos y with h | h
      · rw [h] at hy; simp at hy
      · omega⟩
    rw [Nat.add_sub_cancel]
    refine ⟨?_, hy⟩
    rcases Nat.lt_or_ge n (z * z) with h | h
    · exfalso
      have i4 : (x + q) * (x + q) ≤ 4 * n + 4 * (d * d) := by
        obtain ⟨e, rfl⟩ : ∃ e, x = q + e := ⟨x - q, by omega⟩
        have he : e ≤ 2 * d := by omega
        have he2 := Nat.mul_le_mul he he
        have i2 : (q + e + q) * (q + e + q) = 4 * ((q + e) * q) + e * e := by grind
        have i3 : 2 * d * (2 * d) = 4 * (d * d) := by grind
        omega
      have hS : x + q = 2 * z + 2 ∨ x + q = 2 * z + 3 := by omega
      rcases hS with hS | hS
      · rw [hS] at i4
        have i1 : (2 * z + 2) * (2 * z + 2) = 4 * (z * z) + 8 * z + 4 := by grind
        omega
      · rw [hS] at i4
        have i1 : (2 * z + 3) * (2 * z + 3) = 4 * (z * z) + 12 * z + 9 := by grind
        omega
    · exact h
  · rename_i hy
    exact ⟨by omega, up⟩
theorem log_div {n k l : Nat} (h : n.log2 ≤ l + 1) (hk : 1 ≤ k) : (n / 4 ^ k).log2 ≤ l := by
  by_cases z : n / 4 ^ k = 0
  · rw [z]; simp
  · have h1 : n < 2 ^ (l + 2) := Nat.lt_of_lt_of_le Nat.lt_log2_self (Nat.pow_le_pow_right (by decide) (by omega))
    have h2 : n / 4 ^ k ≤ n / 4 := by
      have : 4 ^ 1 ≤ 4 ^ k := Nat.pow_le_pow_right (by decide) hk
      exact Nat.div_le_div_left (by simpa using this) (by decide)
    have h3 : n / 4 ^ k < 2 ^ (l + 1) := by
      rw [Nat.pow_succ, Nat.pow_succ] at h1
      rw [Nat.pow_succ]
      omega
    have := (Nat.log2_lt z).mpr h3
    omega
theorem root_ok : ∀ (l n : Nat), n.log2 ≤ l → Float64.rootByHalves l n * Float64.rootByHalves l n ≤ n ∧ n < (Float64.rootByHalves l n + 1) * (Float64.rootByHalves l n + 1) := by
  have small : ∀ n : Nat, n < 8 → Float64.rootBelow8 n * Float64.rootBelow8 n ≤ n ∧ n < (Float64.rootBelow8 n + 1) * (Float64.rootBelow8 n + 1) := by decide
  intro l
  induction l with
  | zero =>
    intro n h
    refine small n ?_
    by_cases z : n = 0
    · omega
    · have := Nat.lt_log2_self (n := n)
      have h0 : n.log2 = 0 := by omega
      rw [h0] at this
      omega
  | succ l ih =>
    intro n h
    unfold Float64.rootByHalves
    by_cases h8 : n < 8
    · rw [if_pos h8]
      exact small n h8
    · rw [if_neg h8]
      have hlog : 3 ≤ n.log2 := by
        rcases Nat.lt_or_ge n.log2 3 with z | z
        · have := (Nat.log2_lt (n := n) (k := 3) (by omega)).mp z
          omega
        · exact z
      have hk : 1 ≤ (n.log2 + 1) / 4 := by omega
      have i := ih (n / 4 ^ ((n.log2 + 1) / 4)) (log_div h hk)
      refine root_step ?_ ?_ i.1 i.2
      · have : 4 ^ 1 ≤ 4 ^ ((n.log2 + 1) / 4) := Nat.pow_le_pow_right (by decide) hk
        simpa using this
      · have e : 4 ^ ((n.log2 + 1) / 4) * 4 ^ ((n.log2 + 1) / 4) = 2 ^ (4 * ((n.log2 + 1) / 4)) := by
          rw [Nat.pow_mul, ← Nat.mul_pow]
        rw [e]
        have h1 : 2 ^ (4 * ((n.log2 + 1) / 4)) ≤ 2 ^ (n.log2 + 1) := Nat.pow_le_pow_right (by decide) (by omega)
        have h2 := Nat.log2_self_le (n := n) (by omega)
        rw [Nat.pow_succ] at h1
        omega
theorem isq_ok (n : Nat) : Float64.isqrt n * Float64.isqrt n ≤ n ∧ n < (Float64.isqrt n + 1) * (Float64.isqrt n + 1) := root_ok _ n (Nat.le_refl _)
end PM
namespace LawW
open PySem PySem.Spec PyProof.Rows L2 PM
/-! ### the text -/
def topS (i : Nat) : Stmt := PySem.Challenge.pw_inkedtrue_k02_signs_of_roots.main.body.getD i (.Pass ⟨0, 0, 0, 0⟩)
abbrev s__law_numbers : Stmt := topS 21
abbrev N__law_numbers : List Str := ["script", "at", "count", "cell", "numbers", "k", "mixed"]
theorem sc__law_numbers : FnScope N__law_numbers ["script", "at", "count"] (defScope s__law_numbers) := ⟨rfl, rfl, rfl, by decide +kernel, rfl, by decide +kernel, by decide +kernel⟩
abbrev s__law_pick : Stmt := topS 22
abbrev N__law_pick : List Str := ["numbers", "k", "menu"]
theorem sc__law_pick : FnScope N__law_pick ["numbers", "k", "menu"] (defScope s__law_pick) := ⟨rfl, rfl, rfl, by decide +kernel, rfl, by decide +kernel, by decide +kernel⟩
abbrev s__law_lowest : Stmt := topS 24
abbrev N__law_lowest : List Str := ["p", "q", "a", "b", "k", "rest"]
theorem sc__law_lowest : FnScope N__law_lowest ["p", "q"] (defScope s__law_lowest) := ⟨rfl, rfl, rfl, by decide +kernel, rfl, by decide +kernel, by decide +kernel⟩
abbrev s__law_fraction : Stmt := topS 28
abbrev N__law_fraction : List Str := ["numbers", "k", "p", "q", "kind"]
theorem sc__law_fraction : FnScope N__law_fraction ["numbers", "k"] (defScope s__law_fraction) := ⟨rfl, rfl, rfl, by decide +kernel, rfl, by decide +kernel, by decide +kernel⟩
abbrev s__law_less : Stmt := topS 27
abbrev N__law_less : List Str := ["u", "r"]
theorem sc__law_less : FnScope N__law_less ["u", "r"] (defScope s__law_less) := ⟨rfl, rfl, rfl, by decide +kernel, rfl, by decide +kernel, by decide +kernel⟩
abbrev s__law_sign : Stmt := topS 25
abbrev N__law_sign : List Str := ["n"]
theorem sc__law_sign : FnScope N__law_sign ["n"] (defScope s__law_sign) := ⟨rfl, rfl, rfl, by decide +kernel, rfl, by decide +kernel, by decide +kernel⟩
abbrev s__law_sum_sign : Stmt := topS 26
abbrev N__law_sum_sign : List Str := ["u", "v", "d", "first", "second", "squares"]
theorem sc__law_sum_sign : FnScope N__law_sum_sign ["u", "v", "d"] (defScope s__law_sum_sign) := ⟨rfl, rfl, rfl, by decide +kernel, rfl, by decide +kernel, by decide +kernel⟩
abbrev s_negative : Stmt := topS 7
abbrev N_negative : List Str := ["r"]
theorem sc_negative : FnScope N_negative ["r"] (defScope s_negative) := ⟨rfl, rfl, rfl, by decide +kernel, rfl, by decide +kernel, by decide +kernel⟩
abbrev s_ratio : Stmt := topS 5
abbrev N_ratio : List Str := ["p", "q", "shared"]
theorem sc_ratio : FnScope N_ratio ["p", "q"] (defScope s_ratio) := ⟨rfl, rfl, rfl, by decide +kernel, rfl, by decide +kernel, by decide +kernel⟩
abbrev s_plus : Stmt := topS 6
abbrev N_plus : List Str := ["r", "s"]
theorem sc_plus : FnScope N_plus ["r", "s"] (defScope s_plus) := ⟨rfl, rfl, rfl, by decide +kernel, rfl, by decide +kernel, by decide +kernel⟩
abbrev s_minus : Stmt := topS 8
abbrev N_minus : List Str := ["r", "s"]
theorem sc_minus : FnScope N_minus ["r", "s"] (defScope s_minus) := ⟨rfl, rfl, rfl, by decide +kernel, rfl, by decide +kernel, by decide +kernel⟩
abbrev s_sign : Stmt := topS 10
abbrev N_sign : List Str := ["r"]
theorem sc_sign : FnScope N_sign ["r"] (defScope s_sign) := ⟨rfl, rfl, rfl, by decide +kernel, rfl, by decide +kernel, by decide +kernel⟩
abbrev s_times : Stmt := topS 9
abbrev N_times : List Str := ["r", "s"]
theorem sc_times : FnScope N_times ["r", "s"] (defScope s_times) := ⟨rfl, rfl, rfl, by decide +kernel, rfl, by decide +kernel, by decide +kernel⟩
abbrev s_compare : Stmt := topS 11
abbrev N_compare : List Str := ["r", "s"]
theorem sc_compare : FnScope N_compare ["r", "s"] (defScope s_compare) := ⟨rfl, rfl, rfl, by decide +kernel, rfl, by decide +kernel, by decide +kernel⟩
abbrev s_sign_beside : Stmt := topS 13
abbrev N_sign_beside : List Str := ["u", "v", "d"]
theorem sc_sign_beside : FnScope N_sign_beside ["u", "v", "d"] (defScope s_sign_beside) := ⟨rfl, rfl, rfl, by decide +kernel, rfl, by decide +kernel, by decide +kernel⟩
abbrev s_sign_of_sum : Stmt := topS 14
abbrev N_sign_of_sum : List Str := ["u", "v", "d", "root"]
theorem sc_sign_of_sum : FnScope N_sign_of_sum ["u", "v", "d"] (defScope s_sign_of_sum) := ⟨rfl, rfl, rfl, by decide +kernel, rfl, by decide +kernel, by decide +kernel⟩
abbrev s_compare_sum : Stmt := topS 15
abbrev N_compare_sum : List Str := ["u", "v", "d", "r"]
theorem sc_compare_sum : FnScope N_compare_sum ["u", "v", "d", "r"] (defScope s_compare_sum) := ⟨rfl, rfl, rfl, by decide +kernel, rfl, by decide +kernel, by decide +kernel⟩
abbrev s__law_same : Stmt := topS 23
abbrev N__law_same : List Str := ["actual", "due", "k"]
theorem sc__law_same : FnScope N__law_same ["actual", "due"] (defScope s__law_same) := ⟨rfl, rfl, rfl, by decide +kernel, rfl, by decide +kernel, by decide +kernel⟩
abbrev s__law_compared : Stmt := topS 32
abbrev N__law_compared : List Str := ["u", "v", "d", "r"]
theorem sc__law_compared : FnScope N__law_compared ["u", "v", "d", "r"] (defScope s__law_compared) := ⟨rfl, rfl, rfl, by decide +kernel, rfl, by decide +kernel, by decide +kernel⟩
abbrev s__law_root : Stmt := topS 29
abbrev N__law_root : List Str := ["n", "bit", "k", "low"]
theorem sc__law_root : FnScope N__law_root ["n"] (defScope s__law_root) := ⟨rfl, rfl, rfl, by decide +kernel, rfl, by decide +kernel, by decide +kernel⟩
abbrev s__law_floor : Stmt := topS 30
abbrev N__law_floor : List Str := ["u", "v", "d", "n", "m", "square", "near"]
theorem sc__law_floor : FnScope N__law_floor ["u", "v", "d"] (defScope s__law_floor) := ⟨rfl, rfl, rfl, by decide +kernel, rfl, by decide +kernel, by decide +kernel⟩
abbrev s_as_one_root : Stmt := topS 16
abbrev N_as_one_root : List Str := ["u", "v", "d", "way", "c", "n"]
theorem sc_as_one_root : FnScope N_as_one_root ["u", "v", "d"] (defScope s_as_one_root) := ⟨rfl, rfl, rfl, by decide +kernel, rfl, by decide +kernel, by decide +kernel⟩
abbrev s_root_up : Stmt := topS 17
abbrev N_root_up : List Str := ["n", "found"]
theorem sc_root_up : FnScope N_root_up ["n"] (defScope s_root_up) := ⟨rfl, rfl, rfl, by decide +kernel, rfl, by decide +kernel, by decide +kernel⟩
abbrev s_floor_of_sum : Stmt := topS 18
abbrev N_floor_of_sum : List Str := ["u", "v", "d", "a", "way", "n", "c"]
theorem sc_floor_of_sum : FnScope N_floor_of_sum ["u", "v", "d"] (defScope s_floor_of_sum) := ⟨rfl, rfl, rfl, by decide +kernel, rfl, by decide +kernel, by decide +kernel⟩
abbrev s_ceiling_of_sum : Stmt := topS 19
abbrev N_ceiling_of_sum : List Str := ["u", "v", "d"]
theorem sc_ceiling_of_sum : FnScope N_ceiling_of_sum ["u", "v", "d"] (defScope s_ceiling_of_sum) := ⟨rfl, rfl, rfl, by decide +kernel, rfl, by decide +kernel, by decide +kernel⟩
abbrev s__law_holds : Stmt := topS 31
abbrev N__law_holds : List Str := ["u", "v", "d", "due", "up"]
theorem sc__law_holds : FnScope N__law_holds ["u", "v", "d"] (defScope s__law_holds) := ⟨rfl, rfl, rfl, by decide +kernel, rfl, by decide +kernel, by decide +kernel⟩
abbrev s_law : Stmt := topS 33
abbrev N_law : List Str := ["script", "first", "second", "u", "v", "d", "way", "side", "exact", "worth", "fine", "near", "step", "r"]
theorem sc_law : FnScope N_law ["script"] (defScope s_law) := ⟨rfl, rfl, rfl, by decide +kernel, rfl, by decide +kernel, by decide +kernel⟩
/-! ### what it does -/
def L1__law_numbers : SM := (ifS (asB (bin geD (pvar 3) (pk (bin powD (pk (cst (.int 10))) (pk (cst (.int 18)))))))
  (seqS (appS 4 (pk (bin modD (pvar 3) (pk (cst (.int 1009))))))
  (asgS 3 (bin fdivD (pvar 3) (pk (cst (.int 1009))))))
  (seqS (asgS 6 (bin modD (pk (bin addD (pk (bin addD (pk (bin mulD (pvar 3) (pk (cst (.int 48271))))) (pk (bin mulD (pk (bin addD (pvar 5) (pk (cst (.int 1))))) (pk (cst (.int 69621))))))) (pk (bin mulD (pvar 1) (pk (cst (.int 4001))))))) (pk (cst (.int 2147483647)))))
  (seqS (asgS 6 (bin modD (pk (bin addD (pk (bin mulD (pvar 6) (pvar 6))) (pk (bin mulD (pk (cst (.int 16807))) (pk (bin addD (pvar 5) (pk (cst (.int 3))))))))) (pk (cst (.int 2147483629)))))
  (appS 4 (pk (bin modD (pk (bin fdivD (pvar 6) (pk (cst (.int 7))))) (pk (cst (.int 1009)))))))))
def S__law_numbers : SM := (seqS (asgS 3 (bin mulD (pk (cst (.int 1000003))) (pk (bin addD (pvar 1) (pk (cst (.int 1)))))))
  (seqS (ifS (asB (bin ltD (pvar 1) (pk (blt lenD (acons (pvar 0) anil)))))
  (asgS 3 (blt intD (acons (pk (bin ixD (pvar 0) (pvar 1))) anil)))
  skip)
  (seqS (ifS (asB (bin ltD (pvar 3) (pk (cst (.int 0)))))
  (asgS 3 (bin subD (pk (cst (.int 1))) (pk (bin mulD (pk (cst (.int 2))) (pvar 3)))))
  skip)
  (seqS (asgS 4 (lstE anil))
  (seqS (forS (rng1 (acons (pvar 2) anil)) (tgN 5) (L1__law_numbers))
  (retV 4))))))
def M__law_numbers : FM := runF 7 3 S__law_numbers
def S__law_pick : SM := (retS (bin modD (pk (blt intD (acons (pk (bin ixD (pvar 0) (pvar 1))) anil))) (pvar 2)))
def M__law_pick : FM := runF 3 3 S__law_pick
def L1__law_lowest : SM := (ifS (asB (bin neD (pvar 3) (pk (cst (.int 0)))))
  (seqS (asgS 5 (bin modD (pk (blt intD (acons (pvar 2) anil))) (pvar 3)))
  (seqS (asgS 2 (var 3))
  (asgS 3 (var 5))))
  skip)
def S__law_lowest : SM := (seqS (ifS (asB (bin ltD (pvar 1) (pk (cst (.int 0)))))
  (seqS (asgS 0 (una negD (pvar 0)))
  (asgS 1 (una negD (pvar 1))))
  skip)
  (seqS (asgS 2 (blt absD (acons (pvar 0) anil)))
  (seqS (asgS 3 (var 1))
  (seqS (forS (rng1 (acons (pk (bin addD (pk (bin mulD (pk (cst (.int 2))) (pk (una bitsD (pvar 1))))) (pk (cst (.int 2))))) anil)) (tgN 4) (L1__law_lowest))
  (retS (tupE (acons (pk (bin fdivD (pvar 0) (pvar 2))) (acons (pk (bin fdivD (pvar 1) (pvar 2))) anil))))))))
def M__law_lowest : FM := runF 6 2 S__law_lowest
def T1__law_fraction : SM := (asgS 2 (callE M__law_pick (cvw 0 (cvw 1 (cval (pk (cst (.int 1009))) cnil)))))
def T2__law_fraction : SM := (asgS 3 (bin addD (pk (callE M__law_pick (cvw 0 (cval (pk (bin addD (pvar 1) (pk (cst (.int 1))))) (cval (pk (cst (.int 12))) cnil))))) (pk (cst (.int 1)))))
def T3__law_fraction : SM := (asgS 4 (callE M__law_pick (cvw 0 (cval (pk (bin addD (pvar 1) (pk (cst (.int 2))))) (cval (pk (cst (.int 6))) cnil)))))
def T4__law_fraction : SM := (ifS (asB (bin ltD (pvar 4) (pk (cst (.int 2)))))
  (asgS 2 (bin modD (pk (blt intD (acons (pvar 2) anil))) (pk (cst (.int 9)))))
  skip)
def T5__law_fraction : SM := (ifS (asB (bin eqD (pvar 4) (pk (cst (.int 4)))))
  (asgS 2 (bin addD (pk (bin addD (pk (bin mulD (pvar 2) (pk (bin powD (pk (cst (.int 10))) (pk (cst (.int 20))))))) (pk (bin mulD (pk (cst (.int 1009))) (pvar 3))))) (pvar 4)))
  skip)
def T6__law_fraction : SM := (ifS (asB (bin eqD (pvar 4) (pk (cst (.int 5)))))
  (asgS 3 (bin addD (pk (bin mulD (pvar 3) (pk (bin powD (pk (cst (.int 10))) (pk (cst (.int 18))))))) (pvar 2)))
  skip)
def T7__law_fraction : SM := (ifS (asB (bin eqD (pk (callE M__law_pick (cvw 0 (cval (pk (bin addD (pvar 1) (pk (cst (.int 3))))) (cval (pk (cst (.int 2))) cnil))))) (pk (cst (.int 1)))))
  (asgS 2 (una negD (pvar 2)))
  skip)
def T8__law_fraction : SM := (retS (callE M__law_lowest (cvw 2 (cvw 3 cnil))))
def S__law_fraction : SM := (seqS (T1__law_fraction)
  (seqS (T2__law_fraction)
  (seqS (T3__law_fraction)
  (seqS (T4__law_fraction)
  (seqS (T5__law_fraction)
  (seqS (T6__law_fraction)
  (seqS (T7__law_fraction)
  (T8__law_fraction))))))))
def M__law_fraction : FM := runF 5 2 S__law_fraction
def S__law_less : SM := (retS (callE M__law_lowest (cval (pk (bin subD (pk (bin mulD (pk (bin ixD (pvar 0) (pk (cst (.int 0))))) (pk (bin ixD (pvar 1) (pk (cst (.int 1))))))) (pk (bin mulD (pk (bin ixD (pvar 1) (pk (cst (.int 0))))) (pk (bin ixD (pvar 0) (pk (cst (.int 1))))))))) (cval (pk (bin mulD (pk (bin ixD (pvar 0) (pk (cst (.int 1))))) (pk (bin ixD (pvar 1) (pk (cst (.int 1))))))) cnil))))
def M__law_less : FM := runF 2 2 S__law_less
def S__law_sign : SM := (seqS (ifS (asB (bin gtD (pvar 0) (pk (cst (.int 0)))))
  (retS (cst (.int 1)))
  skip)
  (seqS (ifS (asB (bin ltD (pvar 0) (pk (cst (.int 0)))))
  (retS (una negD (pk (cst (.int 1)))))
  skip)
  (retS (cst (.int 0)))))
def M__law_sign : FM := runF 1 1 S__law_sign
def T1__law_sum_sign : SM := (asgS 3 (callE M__law_sign (cval (pk (bin ixD (pvar 0) (pk (cst (.int 0))))) cnil)))
def T2__law_sum_sign : SM := (asgS 4 (callE M__law_sign (cval (pk (bin ixD (pvar 1) (pk (cst (.int 0))))) cnil)))
def T3__law_sum_sign : SM := (ifS (asB (bin eqD (pk (bin ixD (pvar 2) (pk (cst (.int 0))))) (pk (cst (.int 0)))))
  (asgS 4 (cst (.int 0)))
  skip)
def T4__law_sum_sign : SM := (ifS (tor (asB (bin eqD (pvar 3) (pk (cst (.int 0))))) (asB (bin eqD (pvar 3) (pvar 4))))
  (retV 4)
  skip)
def T5__law_sum_sign : SM := (ifS (asB (bin eqD (pvar 4) (pk (cst (.int 0)))))
  (retV 3)
  skip)
def T6__law_sum_sign : SM := (asgS 5 (callE M__law_sign (cval (pk (bin subD (pk (bin mulD (pk (bin mulD (pk (bin mulD (pk (bin mulD (pk (bin ixD (pvar 0) (pk (cst (.int 0))))) (pk (bin ixD (pvar 0) (pk (cst (.int 0))))))) (pk (bin ixD (pvar 1) (pk (cst (.int 1))))))) (pk (bin ixD (pvar 1) (pk (cst (.int 1))))))) (pk (bin ixD (pvar 2) (pk (cst (.int 1))))))) (pk (bin mulD (pk (bin mulD (pk (bin mulD (pk (bin mulD (pk (bin ixD (pvar 1) (pk (cst (.int 0))))) (pk (bin ixD (pvar 1) (pk (cst (.int 0))))))) (pk (bin ixD (pvar 2) (pk (cst (.int 0))))))) (pk (bin ixD (pvar 0) (pk (cst (.int 1))))))) (pk (bin ixD (pvar 0) (pk (cst (.int 1))))))))) cnil)))
def T7__law_sum_sign : SM := (ifS (asB (bin eqD (pvar 5) (pk (cst (.int 0)))))
  (retS (cst (.int 0)))
  skip)
def T8__law_sum_sign : SM := (ifS (asB (bin gtD (pvar 5) (pk (cst (.int 0)))))
  (retV 3)
  skip)
def T9__law_sum_sign : SM := (retV 4)
def S__law_sum_sign : SM := (seqS (T1__law_sum_sign)
  (seqS (T2__law_sum_sign)
  (seqS (T3__law_sum_sign)
  (seqS (T4__law_sum_sign)
  (seqS (T5__law_sum_sign)
  (seqS (T6__law_sum_sign)
  (seqS (T7__law_sum_sign)
  (seqS (T8__law_sum_sign)
  (T9__law_sum_sign)))))))))
def M__law_sum_sign : FM := runF 6 3 S__law_sum_sign
def S_negative : SM := (retS (tupE (acons (pk (una negD (pk (bin ixD (pvar 0) (pk (cst (.int 0))))))) (acons (pk (bin ixD (pvar 0) (pk (cst (.int 1))))) anil))))
def M_negative : FM := runF 1 1 S_negative
def S_ratio : SM := (seqS (ifS (asB (bin eqD (pvar 1) (pk (cst (.int 0)))))
  (raiseS "BadNumber")
  skip)
  (seqS (asgS 2 (blt gcdD (acons (pvar 0) (acons (pvar 1) anil))))
  (seqS (ifS (asB (bin ltD (pvar 1) (pk (cst (.int 0)))))
  (asgS 2 (una negD (pvar 2)))
  skip)
  (retS (tupE (acons (pk (bin fdivD (pvar 0) (pvar 2))) (acons (pk (bin fdivD (pvar 1) (pvar 2))) anil)))))))
def M_ratio : FM := runF 3 2 S_ratio
def S_plus : SM := (retS (callE M_ratio (cval (pk (bin addD (pk (bin mulD (pk (bin ixD (pvar 0) (pk (cst (.int 0))))) (pk (bin ixD (pvar 1) (pk (cst (.int 1))))))) (pk (bin mulD (pk (bin ixD (pvar 1) (pk (cst (.int 0))))) (pk (bin ixD (pvar 0) (pk (cst (.int 1))))))))) (cval (pk (bin mulD (pk (bin ixD (pvar 0) (pk (cst (.int 1))))) (pk (bin ixD (pvar 1) (pk (cst (.int 1))))))) cnil))))
def M_plus : FM := runF 2 2 S_plus
def S_minus : SM := (retS (callE M_plus (cvw 0 (cval (pk (callE M_negative (cvw 1 cnil))) cnil))))
def M_minus : FM := runF 2 2 S_minus
def S_sign : SM := (retS (bin subD (pk (blt intD (acons (pk (bin gtD (pk (bin ixD (pvar 0) (pk (cst (.int 0))))) (pk (cst (.int 0))))) anil))) (pk (blt intD (acons (pk (bin ltD (pk (bin ixD (pvar 0) (pk (cst (.int 0))))) (pk (cst (.int 0))))) anil)))))
def M_sign : FM := runF 1 1 S_sign
def S_times : SM := (retS (callE M_ratio (cval (pk (bin mulD (pk (bin ixD (pvar 0) (pk (cst (.int 0))))) (pk (bin ixD (pvar 1) (pk (cst (.int 0))))))) (cval (pk (bin mulD (pk (bin ixD (pvar 0) (pk (cst (.int 1))))) (pk (bin ixD (pvar 1) (pk (cst (.int 1))))))) cnil))))
def M_times : FM := runF 2 2 S_times
def S_compare : SM := (retS (callE M_sign (cval (pk (callE M_minus (cvw 0 (cvw 1 cnil)))) cnil)))
def M_compare : FM := runF 2 2 S_compare
def S_sign_beside : SM := (retS (callE M_compare (cval (pk (callE M_times (cvw 0 (cvw 0 cnil)))) (cval (pk (callE M_times (cval (pk (callE M_times (cvw 1 (cvw 1 cnil)))) (cvw 2 cnil)))) cnil))))
def M_sign_beside : FM := runF 3 3 S_sign_beside
def S_sign_of_sum : SM := (seqS (asgS 3 (bin mulD (pk (callE M_sign (cvw 1 cnil))) (pk (callE M_sign (cvw 2 cnil)))))
  (seqS (ifS (tor (asB (bin eqD (pvar 3) (pk (cst (.int 0))))) (asB (bin eqD (pk (callE M_sign (cvw 0 cnil))) (pvar 3))))
  (retS (callE M_sign (cvw 0 cnil)))
  skip)
  (seqS (ifS (asB (bin eqD (pk (callE M_sign (cvw 0 cnil))) (pk (cst (.int 0)))))
  (retV 3)
  skip)
  (seqS (ifS (asB (bin ltD (pvar 3) (pk (cst (.int 0)))))
  (retS (callE M_sign_beside (cvw 0 (cvw 1 (cvw 2 cnil)))))
  skip)
  (retS (una negD (pk (callE M_sign_beside (cval (pk (callE M_negative (cvw 0 cnil))) (cval (pk (callE M_negative (cvw 1 cnil))) (cvw 2 cnil)))))))))))
def M_sign_of_sum : FM := runF 4 3 S_sign_of_sum
def S_compare_sum : SM := (retS (callE M_sign_of_sum (cval (pk (callE M_minus (cvw 0 (cvw 3 cnil)))) (cvw 1 (cvw 2 cnil)))))
def M_compare_sum : FM := runF 4 4 S_compare_sum
def L1__law_same (g : FM) : SM := (ifS (tnot (tru (pk (callE g (cval (pk (bin ixD (pvar 0) (pvar 2))) (cval (pk (bin ixD (pvar 1) (pvar 2))) cnil))))))
  (retS (cst (.bl false)))
  skip)
def T1__law_same (g : FM) : SM := (ifS (asB (bin isD (pvar 1) (pk (cst .non))))
  (retS (bin isD (pvar 0) (pk (cst .non))))
  skip)
def T2__law_same (g : FM) : SM := (ifS (asB (bin isD (pvar 1) (pk (cst (.bl true)))))
  (retS (bin isD (pvar 0) (pk (cst (.bl true)))))
  skip)
def T3__law_same (g : FM) : SM := (ifS (asB (bin isD (pvar 1) (pk (cst (.bl false)))))
  (retS (bin isD (pvar 0) (pk (cst (.bl false)))))
  skip)
def T4__law_same (g : FM) : SM := (ifS (tru (pk (isi .int (pvar 1))))
  (retS (vand (isi .int (pvar 0)) (vand (vnot (isi .bl (pvar 0))) (bin eqD (pvar 0) (pvar 1)))))
  skip)
def T5__law_same (g : FM) : SM := (ifS (tru (pk (isi .str (pvar 1))))
  (retS (vand (isi .str (pvar 0)) (bin eqD (pvar 0) (pvar 1))))
  skip)
def T6__law_same (g : FM) : SM := (ifS (tand (tru (pk (isi .tup (pvar 1)))) (tnot (tru (pk (isi .tup (pvar 0))))))
  (retS (cst (.bl false)))
  skip)
def T7__law_same (g : FM) : SM := (ifS (tand (tru (pk (isi .lst (pvar 1)))) (tnot (tru (pk (isi .lst (pvar 0))))))
  (retS (cst (.bl false)))
  skip)
def T8__law_same (g : FM) : SM := (ifS (asB (bin neD (pk (blt lenD (acons (pvar 0) anil))) (pk (blt lenD (acons (pvar 1) anil)))))
  (retS (cst (.bl false)))
  skip)
def T9__law_same (g : FM) : SM := (forS (rng1 (acons (pk (blt lenD (acons (pvar 1) anil))) anil)) (tgN 2) (L1__law_same g))
def T10__law_same (g : FM) : SM := (retS (cst (.bl true)))
def S__law_same (g : FM) : SM := (seqS (T1__law_same g)
  (seqS (T2__law_same g)
  (seqS (T3__law_same g)
  (seqS (T4__law_same g)
  (seqS (T5__law_same g)
  (seqS (T6__law_same g)
  (seqS (T7__law_same g)
  (seqS (T8__law_same g)
  (seqS (T9__law_same g)
  (T10__law_same g))))))))))
def M__law_same : Nat → FM
  | 0 => fun _ => .bad
  | m + 1 => runF 3 2 (S__law_same (M__law_same m))
theorem len__law_same (m : Nat) (ds : List D) (h : M__law_same m ds ≠ .bad) : ds.length = 2 := by
  cases m with
  | zero => exact absurd rfl h
  | succ m => exact runF_len ds h
def S__law_compared : SM := (retS (callE (M__law_same 12) (cval (pk (callE M_compare_sum (cvw 0 (cvw 1 (cvw 2 (cvw 3 cnil)))))) (cval (pk (callE M__law_sum_sign (cval (pk (callE M__law_less (cvw 0 (cvw 3 cnil)))) (cvw 1 (cvw 2 cnil))))) cnil))))
def M__law_compared : FM := runF 4 4 S__law_compared
def L1__law_root : SM := (ifS (asB (bin leD (pk (bin mulD (pvar 1) (pvar 1))) (pvar 0)))
  (asgS 1 (bin mulD (pvar 1) (pk (cst (.int 2)))))
  skip)
def L2__law_root : SM := (seqS (ifS (asB (bin leD (pk (bin mulD (pk (bin addD (pvar 3) (pvar 1))) (pk (bin addD (pvar 3) (pvar 1))))) (pvar 0)))
  (asgS 3 (bin addD (pvar 3) (pvar 1)))
  skip)
  (asgS 1 (bin fdivD (pvar 1) (pk (cst (.int 2))))))
def S__law_root : SM := (seqS (asgS 1 (cst (.int 1)))
  (seqS (forS (rng1 (acons (pk (cst (.int 320))) anil)) (tgN 2) (L1__law_root))
  (seqS (asgS 3 (cst (.int 0)))
  (seqS (forS (rng1 (acons (pk (cst (.int 321))) anil)) (tgN 2) (L2__law_root))
  (retV 3)))))
def M__law_root : FM := runF 4 1 S__law_root
def T1__law_floor : SM := (asgS 3 (bin mulD (pk (bin mulD (pk (bin ixD (pvar 1) (pk (cst (.int 0))))) (pk (bin ixD (pvar 1) (pk (cst (.int 0))))))) (pk (bin ixD (pvar 2) (pk (cst (.int 0)))))))
def T2__law_floor : SM := (asgS 4 (bin mulD (pk (bin mulD (pk (bin ixD (pvar 1) (pk (cst (.int 1))))) (pk (bin ixD (pvar 1) (pk (cst (.int 1))))))) (pk (bin ixD (pvar 2) (pk (cst (.int 1)))))))
def T3__law_floor : SM := (asgS 5 (bin mulD (pk (bin mulD (pk (bin mulD (pvar 3) (pvar 4))) (pk (bin ixD (pvar 0) (pk (cst (.int 1))))))) (pk (bin ixD (pvar 0) (pk (cst (.int 1)))))))
def T4__law_floor : SM := (asgS 6 (callE M__law_root (cvw 5 cnil)))
def T5__law_floor : SM := (ifS (asB (bin geD (pk (bin ixD (pvar 1) (pk (cst (.int 0))))) (pk (cst (.int 0)))))
  (retS (bin fdivD (pk (bin addD (pk (bin mulD (pk (bin ixD (pvar 0) (pk (cst (.int 0))))) (pvar 4))) (pvar 6))) (pk (bin mulD (pk (bin ixD (pvar 0) (pk (cst (.int 1))))) (pvar 4)))))
  skip)
def T6__law_floor : SM := (ifS (asB (bin ltD (pk (bin mulD (pvar 6) (pvar 6))) (pvar 5)))
  (asgS 6 (bin addD (pvar 6) (pk (cst (.int 1)))))
  skip)
def T7__law_floor : SM := (retS (bin fdivD (pk (bin subD (pk (bin mulD (pk (bin ixD (pvar 0) (pk (cst (.int 0))))) (pvar 4))) (pvar 6))) (pk (bin mulD (pk (bin ixD (pvar 0) (pk (cst (.int 1))))) (pvar 4)))))
def S__law_floor : SM := (seqS (T1__law_floor)
  (seqS (T2__law_floor)
  (seqS (T3__law_floor)
  (seqS (T4__law_floor)
  (seqS (T5__law_floor)
  (seqS (T6__law_floor)
  (T7__law_floor)))))))
def M__law_floor : FM := runF 7 3 S__law_floor
def S_as_one_root : SM := (seqS (asgS 3 (bin mulD (pk (callE M_sign (cvw 1 cnil))) (pk (callE M_sign (cvw 2 cnil)))))
  (seqS (asgS 4 (bin mulD (pk (bin mulD (pk (bin ixD (pvar 0) (pk (cst (.int 1))))) (pk (bin ixD (pvar 1) (pk (cst (.int 1))))))) (pk (bin ixD (pvar 2) (pk (cst (.int 1)))))))
  (seqS (asgS 5 (bin mulD (pk (bin mulD (pk (bin pow2D (pk (bin mulD (pk (bin ixD (pvar 0) (pk (cst (.int 1))))) (pk (bin ixD (pvar 1) (pk (cst (.int 0))))))) (pk (cst (.int 2))))) (pk (bin ixD (pvar 2) (pk (cst (.int 0))))))) (pk (bin ixD (pvar 2) (pk (cst (.int 1)))))))
  (retS (tupE (acons (pk (bin mulD (pk (bin mulD (pk (bin ixD (pvar 0) (pk (cst (.int 0))))) (pk (bin ixD (pvar 1) (pk (cst (.int 1))))))) (pk (bin ixD (pvar 2) (pk (cst (.int 1))))))) (acons (pk (var 3)) (acons (pk (var 5)) (acons (pk (var 4)) anil)))))))))
def M_as_one_root : FM := runF 6 3 S_as_one_root
def S_root_up : SM := (seqS (asgS 1 (blt isqD (acons (pvar 0) anil)))
  (retS (iff (asB (bin eqD (pk (bin mulD (pvar 1) (pvar 1))) (pvar 0))) (var 1) (bin addD (pvar 1) (pk (cst (.int 1)))))))
def M_root_up : FM := runF 2 1 S_root_up
def S_floor_of_sum : SM := (seqS (tgS (pk (callE M_as_one_root (cvw 0 (cvw 1 (cvw 2 cnil))))) (tgT [(tgN 3), (tgN 4), (tgN 5), (tgN 6)]))
  (seqS (ifS (asB (bin geD (pvar 4) (pk (cst (.int 0)))))
  (retS (bin fdivD (pk (bin addD (pvar 3) (pk (bin mulD (pvar 4) (pk (blt isqD (acons (pvar 5) anil))))))) (pvar 6)))
  skip)
  (retS (bin fdivD (pk (bin subD (pvar 3) (pk (callE M_root_up (cvw 5 cnil))))) (pvar 6)))))
def M_floor_of_sum : FM := runF 7 3 S_floor_of_sum
def S_ceiling_of_sum : SM := (retS (una negD (pk (callE M_floor_of_sum (cval (pk (callE M_negative (cvw 0 cnil))) (cval (pk (callE M_negative (cvw 1 cnil))) (cvw 2 cnil)))))))
def M_ceiling_of_sum : FM := runF 3 3 S_ceiling_of_sum
def S__law_holds : SM := (seqS (ifS (tnot (tru (pk (callE (M__law_same 12) (cval (pk (callE M_sign_of_sum (cvw 0 (cvw 1 (cvw 2 cnil))))) (cval (pk (callE M__law_sum_sign (cvw 0 (cvw 1 (cvw 2 cnil))))) cnil))))))
  (retS (cst (.bl false)))
  skip)
  (seqS (asgS 3 (callE M__law_floor (cvw 0 (cvw 1 (cvw 2 cnil)))))
  (seqS (ifS (tnot (tru (pk (callE (M__law_same 12) (cval (pk (callE M_floor_of_sum (cvw 0 (cvw 1 (cvw 2 cnil))))) (cvw 3 cnil))))))
  (retS (cst (.bl false)))
  skip)
  (seqS (asgS 4 (var 3))
  (seqS (ifS (asB (bin gtD (pk (callE M__law_sum_sign (cval (pk (callE M__law_less (cvw 0 (cval (pk (tupE (acons (pk (var 3)) (acons (pk (cst (.int 1))) anil)))) cnil)))) (cvw 1 (cvw 2 cnil))))) (pk (cst (.int 0)))))
  (asgS 4 (bin addD (pvar 3) (pk (cst (.int 1)))))
  skip)
  (retS (callE (M__law_same 12) (cval (pk (callE M_ceiling_of_sum (cvw 0 (cvw 1 (cvw 2 cnil))))) (cvw 4 cnil)))))))))
def M__law_holds : FM := runF 5 3 S__law_holds
def L1_law : SM := (seqS (asgS 13 (callE M__law_lowest (cval (pk (bin mulD (pk (bin ixD (pvar 4) (pk (cst (.int 0))))) (pk (bin addD (pvar 11) (pvar 12))))) (cval (pk (bin mulD (pk (bin ixD (pvar 4) (pk (cst (.int 1))))) (pvar 10))) cnil))))
  (seqS (asgS 13 (callE M__law_lowest (cval (pk (bin addD (pk (bin mulD (pk (bin ixD (pvar 3) (pk (cst (.int 0))))) (pk (bin ixD (pvar 13) (pk (cst (.int 1))))))) (pk (bin mulD (pk (bin ixD (pvar 13) (pk (cst (.int 0))))) (pk (bin ixD (pvar 3) (pk (cst (.int 1))))))))) (cval (pk (bin mulD (pk (bin ixD (pvar 3) (pk (cst (.int 1))))) (pk (bin ixD (pvar 13) (pk (cst (.int 1))))))) cnil))))
  (ifS (tnot (tru (pk (callE M__law_compared (cvw 3 (cvw 4 (cvw 5 (cvw 13 cnil))))))))
  (retS (cst (.bl false)))
  skip)))
def T1_law : SM := (asgS 1 (callE M__law_numbers (cvw 0 (cval (pk (cst (.int 0))) (cval (pk (cst (.int 8))) cnil)))))
def T2_law : SM := (asgS 2 (callE M__law_numbers (cvw 0 (cval (pk (cst (.int 1))) (cval (pk (cst (.int 10))) cnil)))))
def T3_law : SM := (asgS 3 (callE M__law_fraction (cvw 1 (cval (pk (cst (.int 0))) cnil))))
def T4_law : SM := (asgS 4 (callE M__law_fraction (cvw 1 (cval (pk (cst (.int 4))) cnil))))
def T5_law : SM := (asgS 5 (callE M__law_fraction (cvw 2 (cval (pk (cst (.int 0))) cnil))))
def T6_law : SM := (asgS 5 (tupE (acons (pk (blt absD (acons (pk (bin ixD (pvar 5) (pk (cst (.int 0))))) anil))) (acons (pk (bin ixD (pvar 5) (pk (cst (.int 1))))) anil))))
def T7_law : SM := (asgS 6 (callE M__law_pick (cvw 2 (cval (pk (cst (.int 4))) (cval (pk (cst (.int 9))) cnil)))))
def T8_law : SM := (ifS (asB (bin ltD (pvar 6) (pk (cst (.int 3)))))
  (seqS (asgS 7 (var 5))
  (seqS (asgS 5 (callE M__law_lowest (cval (pk (bin mulD (pk (bin ixD (pvar 7) (pk (cst (.int 0))))) (pk (bin ixD (pvar 7) (pk (cst (.int 0))))))) (cval (pk (bin mulD (pk (bin ixD (pvar 7) (pk (cst (.int 1))))) (pk (bin ixD (pvar 7) (pk (cst (.int 1))))))) cnil))))
  (seqS (asgS 8 (callE M__law_lowest (cval (pk (bin mulD (pk (bin ixD (pvar 4) (pk (cst (.int 0))))) (pk (bin ixD (pvar 7) (pk (cst (.int 0))))))) (cval (pk (bin mulD (pk (bin ixD (pvar 4) (pk (cst (.int 1))))) (pk (bin ixD (pvar 7) (pk (cst (.int 1))))))) cnil))))
  (seqS (ifS (asB (bin eqD (pvar 6) (pk (cst (.int 1)))))
  (asgS 3 (tupE (acons (pk (una negD (pk (bin ixD (pvar 8) (pk (cst (.int 0))))))) (acons (pk (bin ixD (pvar 8) (pk (cst (.int 1))))) anil))))
  skip)
  (seqS (ifS (asB (bin eqD (pvar 6) (pk (cst (.int 2)))))
  (asgS 3 (callE M__law_less (cval (pk (tupE (acons (pk (bin subD (pk (callE M__law_pick (cvw 2 (cval (pk (cst (.int 5))) (cval (pk (cst (.int 40))) cnil))))) (pk (cst (.int 20))))) (acons (pk (cst (.int 1))) anil)))) (cvw 8 cnil))))
  skip)
  (seqS (asgS 9 (callE M__law_lowest (cval (pk (bin addD (pk (bin mulD (pk (bin ixD (pvar 3) (pk (cst (.int 0))))) (pk (bin ixD (pvar 8) (pk (cst (.int 1))))))) (pk (bin mulD (pk (bin ixD (pvar 8) (pk (cst (.int 0))))) (pk (bin ixD (pvar 3) (pk (cst (.int 1))))))))) (cval (pk (bin mulD (pk (bin ixD (pvar 3) (pk (cst (.int 1))))) (pk (bin ixD (pvar 8) (pk (cst (.int 1))))))) cnil))))
  (seqS (ifS (tnot (tru (pk (callE M__law_compared (cvw 3 (cvw 4 (cvw 5 (cvw 9 cnil))))))))
  (retS (cst (.bl false)))
  skip)
  (ifS (tnot (tru (pk (callE (M__law_same 12) (cval (pk (callE M_compare_sum (cvw 3 (cvw 4 (cvw 5 (cvw 9 cnil)))))) (cval (pk (cst (.int 0))) cnil))))))
  (retS (cst (.bl false)))
  skip))))))))
  skip)
def T9_law : SM := (ifS (asB (bin eqD (pvar 6) (pk (cst (.int 3)))))
  (asgS 4 (tupE (acons (pk (cst (.int 0))) (acons (pk (cst (.int 1))) anil))))
  skip)
def T10_law : SM := (ifS (asB (bin eqD (pvar 6) (pk (cst (.int 4)))))
  (asgS 5 (tupE (acons (pk (cst (.int 0))) (acons (pk (cst (.int 1))) anil))))
  skip)
def T11_law : SM := (ifS (tor (tnot (tru (pk (callE M__law_holds (cvw 3 (cvw 4 (cvw 5 cnil))))))) (tor (tnot (tru (pk (callE M__law_holds (cval (pk (tupE (acons (pk (una negD (pk (bin ixD (pvar 3) (pk (cst (.int 0))))))) (acons (pk (bin ixD (pvar 3) (pk (cst (.int 1))))) anil)))) (cvw 4 (cvw 5 cnil))))))) (tnot (tru (pk (callE M__law_holds (cvw 3 (cval (pk (tupE (acons (pk (una negD (pk (bin ixD (pvar 4) (pk (cst (.int 0))))))) (acons (pk (bin ixD (pvar 4) (pk (cst (.int 1))))) anil)))) (cvw 5 cnil)))))))))
  (retS (cst (.bl false)))
  skip)
def T12_law : SM := (asgS 10 (bin powD (pk (cst (.int 10))) (pk (cst (.int 8)))))
def T13_law : SM := (ifS (asB (bin eqD (pk (callE M__law_pick (cvw 2 (cval (pk (cst (.int 6))) (cval (pk (cst (.int 2))) cnil))))) (pk (cst (.int 1)))))
  (asgS 10 (bin powD (pk (cst (.int 10))) (pk (cst (.int 25)))))
  skip)
def T14_law : SM := (asgS 11 (callE M__law_root (cval (pk (bin fdivD (pk (bin mulD (pk (bin mulD (pk (bin ixD (pvar 5) (pk (cst (.int 0))))) (pvar 10))) (pvar 10))) (pk (bin ixD (pvar 5) (pk (cst (.int 1))))))) cnil)))
def T15_law : SM := (forS (src (pk (lstE (acons (pk (cst (.int 0))) (acons (pk (cst (.int 1))) (acons (pk (una negD (pk (cst (.int 1))))) anil)))))) (tgN 12) (L1_law))
def T16_law : SM := (ifS (tor (tnot (tru (pk (callE M__law_holds (cval (pk (tupE (acons (pk (cst (.int 0))) (acons (pk (cst (.int 1))) anil)))) (cvw 4 (cvw 5 cnil))))))) (tnot (tru (pk (callE M__law_compared (cvw 3 (cvw 4 (cvw 5 (cval (pk (tupE (acons (pk (cst (.int 0))) (acons (pk (cst (.int 1))) anil)))) cnil)))))))))
  (retS (cst (.bl false)))
  skip)
def T17_law : SM := (retS (vand (callE M__law_compared (cvw 3 (cvw 4 (cvw 5 (cval (pk (tupE (acons (pk (callE M__law_floor (cvw 3 (cvw 4 (cvw 5 cnil))))) (acons (pk (cst (.int 1))) anil)))) cnil))))) (callE M__law_compared (cvw 3 (cvw 4 (cvw 5 (cval (pk (callE M__law_fraction (cvw 2 (cval (pk (cst (.int 6))) cnil)))) cnil)))))))
def S_law : SM := (seqS (T1_law)
  (seqS (T2_law)
  (seqS (T3_law)
  (seqS (T4_law)
  (seqS (T5_law)
  (seqS (T6_law)
  (seqS (T7_law)
  (seqS (T8_law)
  (seqS (T9_law)
  (seqS (T10_law)
  (seqS (T11_law)
  (seqS (T12_law)
  (seqS (T13_law)
  (seqS (T14_law)
  (seqS (T15_law)
  (seqS (T16_law)
  (T17_law)))))))))))))))))
def M_law : FM := runF 14 1 S_law
/-! ### what is known of the module -/
structure Fx (P : Program) (K : Fr) (mg : Str → Option Value) where
  a__law_numbers : Addr
  d__law_numbers : FuncData
  F__law_numbers : FunD K "_law_numbers" "_law_numbers" (defArgs s__law_numbers) (defBody s__law_numbers) (defScope s__law_numbers) [] [] a__law_numbers d__law_numbers
  g__law_numbers : mg "_law_numbers" = some (.ref a__law_numbers)
  a__law_pick : Addr
  d__law_pick : FuncData
  F__law_pick : FunD K "_law_pick" "_law_pick" (defArgs s__law_pick) (defBody s__law_pick) (defScope s__law_pick) [] [] a__law_pick d__law_pick
  g__law_pick : mg "_law_pick" = some (.ref a__law_pick)
  a__law_lowest : Addr
  d__law_lowest : FuncData
  F__law_lowest : FunD K "_law_lowest" "_law_lowest" (defArgs s__law_lowest) (defBody s__law_lowest) (defScope s__law_lowest) [] [] a__law_lowest d__law_lowest
  g__law_lowest : mg "_law_lowest" = some (.ref a__law_lowest)
  a__law_fraction : Addr
  d__law_fraction : FuncData
  F__law_fraction : FunD K "_law_fraction" "_law_fraction" (defArgs s__law_fraction) (defBody s__law_fraction) (defScope s__law_fraction) [] [] a__law_fraction d__law_fraction
  g__law_fraction : mg "_law_fraction" = some (.ref a__law_fraction)
  a__law_less : Addr
  d__law_less : FuncData
  F__law_less : FunD K "_law_less" "_law_less" (defArgs s__law_less) (defBody s__law_less) (defScope s__law_less) [] [] a__law_less d__law_less
  g__law_less : mg "_law_less" = some (.ref a__law_less)
  a__law_sign : Addr
  d__law_sign : FuncData
  F__law_sign : FunD K "_law_sign" "_law_sign" (defArgs s__law_sign) (defBody s__law_sign) (defScope s__law_sign) [] [] a__law_sign d__law_sign
  g__law_sign : mg "_law_sign" = some (.ref a__law_sign)
  a__law_sum_sign : Addr
  d__law_sum_sign : FuncData
  F__law_sum_sign : FunD K "_law_sum_sign" "_law_sum_sign" (defArgs s__law_sum_sign) (defBody s__law_sum_sign) (defScope s__law_sum_sign) [] [] a__law_sum_sign d__law_sum_sign
  g__law_sum_sign : mg "_law_sum_sign" = some (.ref a__law_sum_sign)
  a_negative : Addr
  d_negative : FuncData
  F_negative : FunD K "negative" "negative" (defArgs s_negative) (defBody s_negative) (defScope s_negative) [] [] a_negative d_negative
  g_negative : mg "negative" = some (.ref a_negative)
  a_ratio : Addr
  d_ratio : FuncData
  F_ratio : FunD K "ratio" "ratio" (defArgs s_ratio) (defBody s_ratio) (defScope s_ratio) [] [] a_ratio d_ratio
  g_ratio : mg "ratio" = some (.ref a_ratio)
  a_plus : Addr
  d_plus : FuncData
  F_plus : FunD K "plus" "plus" (defArgs s_plus) (defBody s_plus) (defScope s_plus) [] [] a_plus d_plus
  g_plus : mg "plus" = some (.ref a_plus)
  a_minus : Addr
  d_minus : FuncData
  F_minus : FunD K "minus" "minus" (defArgs s_minus) (defBody s_minus) (defScope s_minus) [] [] a_minus d_minus
  g_minus : mg "minus" = some (.ref a_minus)
  a_sign : Addr
  d_sign : FuncData
  F_sign : FunD K "sign" "sign" (defArgs s_sign) (defBody s_sign) (defScope s_sign) [] [] a_sign d_sign
  g_sign : mg "sign" = some (.ref a_sign)
  a_times : Addr
  d_times : FuncData
  F_times : FunD K "times" "times" (defArgs s_times) (defBody s_times) (defScope s_times) [] [] a_times d_times
  g_times : mg "times" = some (.ref a_times)
  a_compare : Addr
  d_compare : FuncData
  F_compare : FunD K "compare" "compare" (defArgs s_compare) (defBody s_compare) (defScope s_compare) [] [] a_compare d_compare
  g_compare : mg "compare" = some (.ref a_compare)
  a_sign_beside : Addr
  d_sign_beside : FuncData
  F_sign_beside : FunD K "sign_beside" "sign_beside" (defArgs s_sign_beside) (defBody s_sign_beside) (defScope s_sign_beside) [] [] a_sign_beside d_sign_beside
  g_sign_beside : mg "sign_beside" = some (.ref a_sign_beside)
  a_sign_of_sum : Addr
  d_sign_of_sum : FuncData
  F_sign_of_sum : FunD K "sign_of_sum" "sign_of_sum" (defArgs s_sign_of_sum) (defBody s_sign_of_sum) (defScope s_sign_of_sum) [] [] a_sign_of_sum d_sign_of_sum
  g_sign_of_sum : mg "sign_of_sum" = some (.ref a_sign_of_sum)
  a_compare_sum : Addr
  d_compare_sum : FuncData
  F_compare_sum : FunD K "compare_sum" "compare_sum" (defArgs s_compare_sum) (defBody s_compare_sum) (defScope s_compare_sum) [] [] a_compare_sum d_compare_sum
  g_compare_sum : mg "compare_sum" = some (.ref a_compare_sum)
  a__law_same : Addr
  d__law_same : FuncData
  F__law_same : FunD K "_law_same" "_law_same" (defArgs s__law_same) (defBody s__law_same) (defScope s__law_same) [] [] a__law_same d__law_same
  g__law_same : mg "_law_same" = some (.ref a__law_same)
  a__law_compared : Addr
  d__law_compared : FuncData
  F__law_compared : FunD K "_law_compared" "_law_compared" (defArgs s__law_compared) (defBody s__law_compared) (defScope s__law_compared) [] [] a__law_compared d__law_compared
  g__law_compared : mg "_law_compared" = some (.ref a__law_compared)
  a__law_root : Addr
  d__law_root : FuncData
  F__law_root : FunD K "_law_root" "_law_root" (defArgs s__law_root) (defBody s__law_root) (defScope s__law_root) [] [] a__law_root d__law_root
  g__law_root : mg "_law_root" = some (.ref a__law_root)
  a__law_floor : Addr
  d__law_floor : FuncData
  F__law_floor : FunD K "_law_floor" "_law_floor" (defArgs s__law_floor) (defBody s__law_floor) (defScope s__law_floor) [] [] a__law_floor d__law_floor
  g__law_floor : mg "_law_floor" = some (.ref a__law_floor)
  a_as_one_root : Addr
  d_as_one_root : FuncData
  F_as_one_root : FunD K "as_one_root" "as_one_root" (defArgs s_as_one_root) (defBody s_as_one_root) (defScope s_as_one_root) [] [] a_as_one_root d_as_one_root
  g_as_one_root : mg "as_one_root" = some (.ref a_as_one_root)
  a_root_up : Addr
  d_root_up : FuncData
  F_root_up : FunD K "root_up" "root_up" (defArgs s_root_up) (defBody s_root_up) (defScope s_root_up) [] [] a_root_up d_root_up
  g_root_up : mg "root_up" = some (.ref a_root_up)
  a_floor_of_sum : Addr
  d_floor_of_sum : FuncData
  F_floor_of_sum : FunD K "floor_of_sum" "floor_of_sum" (defArgs s_floor_of_sum) (defBody s_floor_of_sum) (defScope s_floor_of_sum) [] [] a_floor_of_sum d_floor_of_sum
  g_floor_of_sum : mg "floor_of_sum" = some (.ref a_floor_of_sum)
  a_ceiling_of_sum : Addr
  d_ceiling_of_sum : FuncData
  F_ceiling_of_sum : FunD K "ceiling_of_sum" "ceiling_of_sum" (defArgs s_ceiling_of_sum) (defBody s_ceiling_of_sum) (defScope s_ceiling_of_sum) [] [] a_ceiling_of_sum d_ceiling_of_sum
  g_ceiling_of_sum : mg "ceiling_of_sum" = some (.ref a_ceiling_of_sum)
  a__law_holds : Addr
  d__law_holds : FuncData
  F__law_holds : FunD K "_law_holds" "_law_holds" (defArgs s__law_holds) (defBody s__law_holds) (defScope s__law_holds) [] [] a__law_holds d__law_holds
  g__law_holds : mg "_law_holds" = some (.ref a__law_holds)
  a_law : Addr
  d_law : FuncData
  F_law : FunD K "law" "law" (defArgs s_law) (defBody s_law) (defScope s_law) [] [] a_law d_law
  g_law : mg "law" = some (.ref a_law)
  m_abs : mg "abs" = none
  m_bool : mg "bool" = none
  m_int : mg "int" = none
  m_isinstance : mg "isinstance" = none
  m_len : mg "len" = none
  m_list : mg "list" = none
  m_range : mg "range" = none
  m_str : mg "str" = none
  m_tuple : mg "tuple" = none
  f_gcd : mg "gcd" = some (.builtin "math.gcd")
  f_isqrt : mg "isqrt" = some (.builtin "math.isqrt")
  k_BadNumber : mg "BadNumber" = some (.ref (He.ga K "BadNumber")) ∧ XCls K (He.ga K "BadNumber")
  r_BadNumber : (He.Fa.exc "BadNumber").ok K = true
section
variable {P : Program} {w : World} {K : Fr} {mg : Str → Option Value} {base : Heap}
theorem b__law_numbers (x : Fx P K mg) : Binds K x.d__law_numbers ["script", "at", "count"] [] := x.F__law_numbers.bindsN fun _ _ _ _ _ _ us hl => match us, hl with | [_, _, _], _ => rfl
theorem ok__law_numbers (x : Fx P K mg) : FnOk P w K mg base (L2.CX P w) 1 x.a__law_numbers x.d__law_numbers ["script", "at", "count"] (spF K mg M__law_numbers 3) := by
  refine ok_fun (He5.fun_of x.F__law_numbers) sc__law_numbers (by decide) fun cdv A outer s0 H E hr B F0 => ?_
  have po := passes_of (X := cxOf (L2.CX P w) P w K mg base N__law_numbers "_law_numbers" (defScope s__law_numbers) x.a__law_numbers cdv A outer s0 H E) rfl
  have tk := takes_of (X := cxOf (L2.CX P w) P w K mg base N__law_numbers "_law_numbers" (defScope s__law_numbers) x.a__law_numbers cdv A outer s0 H E) rfl rfl rfl rfl
  exact (ss_cons (s_set (i := 3) sc__law_numbers.nd rfl (by first | exact Or.inl rfl | exact Or.inr rfl) (e_bin op_mulA ok_mul (p_of e_int) (p_of (e_bin op_addA ok_add (p_var (pv 1)) (p_of e_int)))))
  (ss_cons (s_if (t_cmp op_ltA ok_cmp (p_var (pv 1)) (p_of (e_blt op_lenA ok_len (by rfl) x.m_len (by decide +kernel) (q_cons (p_var (pv 0)) q_nil))) (nomark _))
  (ss_one (s_set (i := 3) sc__law_numbers.nd rfl (by first | exact Or.inl rfl | exact Or.inr rfl) (e_typ op_int1 ok_int (by rfl) x.m_int (by decide +kernel) (q_cons (p_of (e_ix rfl (p_var (pv 0)) (p_var (pv 1)) (fun _ _ => rfl))) q_nil))))
  ss_nil)
  (ss_cons (s_if (t_cmp op_ltA ok_cmp (p_var (pv 3)) (p_of e_int) (nomark _))
  (ss_one (s_set (i := 3) sc__law_numbers.nd rfl (by first | exact Or.inl rfl | exact Or.inr rfl) (e_bin op_sub ok_sub (p_of e_int) (p_of (e_bin op_mulA ok_mul (p_of e_int) (p_var (pv 3)))))))
  ss_nil)
  (ss_cons (s_set (i := 4) sc__law_numbers.nd rfl (by first | exact Or.inl rfl | exact Or.inr rfl) (e_lst a_nil))
  (ss_cons (s_for (S1 := (L1__law_numbers)) po rfl (k_rng1 (by rfl) x.m_range (q_cons (p_var (pv 2)) q_nil)) (pg_name (i := 5) sc__law_numbers.nd rfl (by first | exact Or.inl rfl | exact Or.inr rfl)) g_name fun F0 =>
  (ss_one (s_if (t_cmp op_geA ok_cmp (p_var (pv 3)) (p_of (e_bin op_pow ok_pow (p_of e_int) (p_of e_int))) (nomark _))
  (ss_cons (s_app rfl (pv 4) (f_of (e_bin op_mod ok_mod (p_var (pv 3)) (p_of e_int))))
  (ss_one (s_set (i := 3) sc__law_numbers.nd rfl (by first | exact Or.inl rfl | exact Or.inr rfl) (e_bin op_fdivX ok_fdivX (p_var (pv 3)) (p_of e_int)))))
  (ss_cons (s_set (i := 6) sc__law_numbers.nd rfl (by first | exact Or.inl rfl | exact Or.inr rfl) (e_bin op_mod ok_mod (p_of (e_bin op_addA ok_add (p_of (e_bin op_addA ok_add (p_of (e_bin op_mulA ok_mul (p_var (pv 3)) (p_of e_int))) (p_of (e_bin op_mulA ok_mul (p_of (e_bin op_addA ok_add (p_var (pv 5)) (p_of e_int))) (p_of e_int))))) (p_of (e_bin op_mulA ok_mul (p_var (pv 1)) (p_of e_int))))) (p_of e_int)))
  (ss_cons (s_set (i := 6) sc__law_numbers.nd rfl (by first | exact Or.inl rfl | exact Or.inr rfl) (e_bin op_mod ok_mod (p_of (e_bin op_addA ok_add (p_of (e_bin op_mulA ok_mul (p_var (pv 6)) (p_var (pv 6)))) (p_of (e_bin op_mulA ok_mul (p_of e_int) (p_of (e_bin op_addA ok_add (p_var (pv 5)) (p_of e_int))))))) (p_of e_int)))
  (ss_one (s_app rfl (pv 4) (f_of (e_bin op_mod ok_mod (p_of (e_bin op_fdivX ok_fdivX (p_var (pv 6)) (p_of e_int))) (p_of e_int))))))))))
  (ss_one (s_retV (pv 4))))))))
theorem b__law_pick (x : Fx P K mg) : Binds K x.d__law_pick ["numbers", "k", "menu"] [] := x.F__law_pick.bindsN fun _ _ _ _ _ _ us hl => match us, hl with | [_, _, _], _ => rfl
theorem ok__law_pick (x : Fx P K mg) : FnOk P w K mg base (L2.CX P w) 1 x.a__law_pick x.d__law_pick ["numbers", "k", "menu"] (spF K mg M__law_pick 3) := by
  refine ok_fun (He5.fun_of x.F__law_pick) sc__law_pick (by decide) fun cdv A outer s0 H E hr B F0 => ?_
  have po := passes_of (X := cxOf (L2.CX P w) P w K mg base N__law_pick "_law_pick" (defScope s__law_pick) x.a__law_pick cdv A outer s0 H E) rfl
  have tk := takes_of (X := cxOf (L2.CX P w) P w K mg base N__law_pick "_law_pick" (defScope s__law_pick) x.a__law_pick cdv A outer s0 H E) rfl rfl rfl rfl
  exact (ss_one (s_ret (e_bin op_mod ok_mod (p_of (e_typ op_int1 ok_int (by rfl) x.m_int (by decide +kernel) (q_cons (p_of (e_ix rfl (p_var (pv 0)) (p_var (pv 1)) (fun _ _ => rfl))) q_nil))) (p_var (pv 2)))))
theorem b__law_lowest (x : Fx P K mg) : Binds K x.d__law_lowest ["p", "q"] [] := x.F__law_lowest.bindsN fun _ _ _ _ _ _ us hl => match us, hl with | [_, _], _ => rfl
theorem ok__law_lowest (x : Fx P K mg) : FnOk P w K mg base (L2.CX P w) 1 x.a__law_lowest x.d__law_lowest ["p", "q"] (spF K mg M__law_lowest 2) := by
  refine ok_fun (He5.fun_of x.F__law_lowest) sc__law_lowest (by decide) fun cdv A outer s0 H E hr B F0 => ?_
  have po := passes_of (X := cxOf (L2.CX P w) P w K mg base N__law_lowest "_law_lowest" (defScope s__law_lowest) x.a__law_lowest cdv A outer s0 H E) rfl
  have tk := takes_of (X := cxOf (L2.CX P w) P w K mg base N__law_lowest "_law_lowest" (defScope s__law_lowest) x.a__law_lowest cdv A outer s0 H E) rfl rfl rfl rfl
  exact (ss_cons (s_if (t_cmp op_ltA ok_cmp (p_var (pv 1)) (p_of e_int) (nomark _))
  (ss_cons (s_set (i := 0) sc__law_lowest.nd rfl (by first | exact Or.inl rfl | exact Or.inr rfl) (e_neg (p_var (pv 0))))
  (ss_one (s_set (i := 1) sc__law_lowest.nd rfl (by first | exact Or.inl rfl | exact Or.inr rfl) (e_neg (p_var (pv 1))))))
  ss_nil)
  (ss_cons (s_set (i := 2) sc__law_lowest.nd rfl (by first | exact Or.inl rfl | exact Or.inr rfl) (e_blt op_abs ok_abs (by rfl) x.m_abs (by decide +kernel) (q_cons (p_var (pv 0)) q_nil)))
  (ss_cons (s_set (i := 3) sc__law_lowest.nd rfl (by first | exact Or.inl rfl | exact Or.inr rfl) (e_var (pv 1)))
  (ss_cons (s_for (S1 := (L1__law_lowest)) po rfl (k_rng1 (by rfl) x.m_range (q_cons (p_of (e_bin op_addA ok_add (p_of (e_bin op_mulA ok_mul (p_of e_int) (p_of (e_bits (p_var (pv 1)))))) (p_of e_int))) q_nil)) (pg_name (i := 4) sc__law_lowest.nd rfl (by first | exact Or.inl rfl | exact Or.inr rfl)) g_name fun F0 =>
  (ss_one (s_if (t_cmp (op_neD hr.units) ok_ne (p_var (pv 3)) (p_of e_int) (nomark _))
  (ss_cons (s_set (i := 5) sc__law_lowest.nd rfl (by first | exact Or.inl rfl | exact Or.inr rfl) (e_bin op_mod ok_mod (p_of (e_typ op_int1 ok_int (by rfl) x.m_int (by decide +kernel) (q_cons (p_var (pv 2)) q_nil))) (p_var (pv 3))))
  (ss_cons (s_set (i := 2) sc__law_lowest.nd rfl (by first | exact Or.inl rfl | exact Or.inr rfl) (e_var (pv 3)))
  (ss_one (s_set (i := 3) sc__law_lowest.nd rfl (by first | exact Or.inl rfl | exact Or.inr rfl) (e_var (pv 5))))))
  ss_nil)))
  (ss_one (s_ret (e_tup (a_cons (f_of (e_bin op_fdivX ok_fdivX (p_var (pv 0)) (p_var (pv 2)))) (a_cons (f_of (e_bin op_fdivX ok_fdivX (p_var (pv 1)) (p_var (pv 2)))) a_nil)))))))))
theorem b__law_fraction (x : Fx P K mg) : Binds K x.d__law_fraction ["numbers", "k"] [] := x.F__law_fraction.bindsN fun _ _ _ _ _ _ us hl => match us, hl with | [_, _], _ => rfl
theorem ok__law_fraction (x : Fx P K mg) : FnOk P w K mg base (L2.CX P w) 2 x.a__law_fraction x.d__law_fraction ["numbers", "k"] (spF K mg M__law_fraction 2) := by
  refine ok_fun (He5.fun_of x.F__law_fraction) sc__law_fraction (by decide) fun cdv A outer s0 H E hr B F0 => ?_
  have po := passes_of (X := cxOf (L2.CX P w) P w K mg base N__law_fraction "_law_fraction" (defScope s__law_fraction) x.a__law_fraction cdv A outer s0 H E) rfl
  have tk := takes_of (X := cxOf (L2.CX P w) P w K mg base N__law_fraction "_law_fraction" (defScope s__law_fraction) x.a__law_fraction cdv A outer s0 H E) rfl rfl rfl rfl
  exact (ss_cons (s_set (i := 2) sc__law_fraction.nd rfl (by first | exact Or.inl rfl | exact Or.inr rfl) (e_call (ok__law_pick x) (hr.mono (by first | decide | omega)) rfl rfl tk (fun ds h => runF_len ds h) (by rfl) x.g__law_pick x.F__law_pick.kp (b__law_pick x) (c_vw (pv 0) (c_vw (pv 1) (c_val (f_of e_int) c_nil)))))
  (ss_cons (s_set (i := 3) sc__law_fraction.nd rfl (by first | exact Or.inl rfl | exact Or.inr rfl) (e_bin op_addA ok_add (p_of (e_call (ok__law_pick x) (hr.mono (by first | decide | omega)) rfl rfl tk (fun ds h => runF_len ds h) (by rfl) x.g__law_pick x.F__law_pick.kp (b__law_pick x) (c_vw (pv 0) (c_val (f_of (e_bin op_addA ok_add (p_var (pv 1)) (p_of e_int))) (c_val (f_of e_int) c_nil))))) (p_of e_int)))
  (ss_cons (s_set (i := 4) sc__law_fraction.nd rfl (by first | exact Or.inl rfl | exact Or.inr rfl) (e_call (ok__law_pick x) (hr.mono (by first | decide | omega)) rfl rfl tk (fun ds h => runF_len ds h) (by rfl) x.g__law_pick x.F__law_pick.kp (b__law_pick x) (c_vw (pv 0) (c_val (f_of (e_bin op_addA ok_add (p_var (pv 1)) (p_of e_int))) (c_val (f_of e_int) c_nil)))))
  (ss_cons (s_if (t_cmp op_ltA ok_cmp (p_var (pv 4)) (p_of e_int) (nomark _))
  (ss_one (s_set (i := 2) sc__law_fraction.nd rfl (by first | exact Or.inl rfl | exact Or.inr rfl) (e_bin op_mod ok_mod (p_of (e_typ op_int1 ok_int (by rfl) x.m_int (by decide +kernel) (q_cons (p_var (pv 2)) q_nil))) (p_of e_int))))
  ss_nil)
  (ss_cons (s_if (t_cmp (op_eqD hr.units) ok_eq (p_var (pv 4)) (p_of e_int) (nomark _))
  (ss_one (s_set (i := 2) sc__law_fraction.nd rfl (by first | exact Or.inl rfl | exact Or.inr rfl) (e_bin op_addA ok_add (p_of (e_bin op_addA ok_add (p_of (e_bin op_mulA ok_mul (p_var (pv 2)) (p_of (e_bin op_pow ok_pow (p_of e_int) (p_of e_int))))) (p_of (e_bin op_mulA ok_mul (p_of e_int) (p_var (pv 3)))))) (p_var (pv 4)))))
  ss_nil)
  (ss_cons (s_if (t_cmp (op_eqD hr.units) ok_eq (p_var (pv 4)) (p_of e_int) (nomark _))
  (ss_one (s_set (i := 3) sc__law_fraction.nd rfl (by first | exact Or.inl rfl | exact Or.inr rfl) (e_bin op_addA ok_add (p_of (e_bin op_mulA ok_mul (p_var (pv 3)) (p_of (e_bin op_pow ok_pow (p_of e_int) (p_of e_int))))) (p_var (pv 2)))))
  ss_nil)
  (ss_cons (s_if (t_cmp (op_eqD hr.units) ok_eq (p_of (e_call (ok__law_pick x) (hr.mono (by first | decide | omega)) rfl rfl tk (fun ds h => runF_len ds h) (by rfl) x.g__law_pick x.F__law_pick.kp (b__law_pick x) (c_vw (pv 0) (c_val (f_of (e_bin op_addA ok_add (p_var (pv 1)) (p_of e_int))) (c_val (f_of e_int) c_nil))))) (p_of e_int) (nomark _))
  (ss_one (s_set (i := 2) sc__law_fraction.nd rfl (by first | exact Or.inl rfl | exact Or.inr rfl) (e_neg (p_var (pv 2)))))
  ss_nil)
  (ss_one (s_ret (e_call (ok__law_lowest x) (hr.mono (by first | decide | omega)) rfl rfl tk (fun ds h => runF_len ds h) (by rfl) x.g__law_lowest x.F__law_lowest.kp (b__law_lowest x) (c_vw (pv 2) (c_vw (pv 3) c_nil))))))))))))
theorem b__law_less (x : Fx P K mg) : Binds K x.d__law_less ["u", "r"] [] := x.F__law_less.bindsN fun _ _ _ _ _ _ us hl => match us, hl with | [_, _], _ => rfl
theorem ok__law_less (x : Fx P K mg) : FnOk P w K mg base (L2.CX P w) 2 x.a__law_less x.d__law_less ["u", "r"] (spF K mg M__law_less 2) := by
  refine ok_fun (He5.fun_of x.F__law_less) sc__law_less (by decide) fun cdv A outer s0 H E hr B F0 => ?_
  have po := passes_of (X := cxOf (L2.CX P w) P w K mg base N__law_less "_law_less" (defScope s__law_less) x.a__law_less cdv A outer s0 H E) rfl
  have tk := takes_of (X := cxOf (L2.CX P w) P w K mg base N__law_less "_law_less" (defScope s__law_less) x.a__law_less cdv A outer s0 H E) rfl rfl rfl rfl
  exact (ss_one (s_ret (e_call (ok__law_lowest x) (hr.mono (by first | decide | omega)) rfl rfl tk (fun ds h => runF_len ds h) (by rfl) x.g__law_lowest x.F__law_lowest.kp (b__law_lowest x) (c_val (f_of (e_bin op_sub ok_sub (p_of (e_bin op_mulA ok_mul (p_of (e_ix rfl (p_var (pv 0)) (p_of e_int) (fun _ _ => rfl))) (p_of (e_ix rfl (p_var (pv 1)) (p_of e_int) (fun _ _ => rfl))))) (p_of (e_bin op_mulA ok_mul (p_of (e_ix rfl (p_var (pv 1)) (p_of e_int) (fun _ _ => rfl))) (p_of (e_ix rfl (p_var (pv 0)) (p_of e_int) (fun _ _ => rfl))))))) (c_val (f_of (e_bin op_mulA ok_mul (p_of (e_ix rfl (p_var (pv 0)) (p_of e_int) (fun _ _ => rfl))) (p_of (e_ix rfl (p_var (pv 1)) (p_of e_int) (fun _ _ => rfl))))) c_nil)))))
theorem b__law_sign (x : Fx P K mg) : Binds K x.d__law_sign ["n"] [] := x.F__law_sign.bindsN fun _ _ _ _ _ _ us hl => match us, hl with | [_], _ => rfl
theorem ok__law_sign (x : Fx P K mg) : FnOk P w K mg base (L2.CX P w) 1 x.a__law_sign x.d__law_sign ["n"] (spF K mg M__law_sign 1) := by
  refine ok_fun (He5.fun_of x.F__law_sign) sc__law_sign (by decide) fun cdv A outer s0 H E hr B F0 => ?_
  have po := passes_of (X := cxOf (L2.CX P w) P w K mg base N__law_sign "_law_sign" (defScope s__law_sign) x.a__law_sign cdv A outer s0 H E) rfl
  have tk := takes_of (X := cxOf (L2.CX P w) P w K mg base N__law_sign "_law_sign" (defScope s__law_sign) x.a__law_sign cdv A outer s0 H E) rfl rfl rfl rfl
  exact (ss_cons (s_if (t_cmp op_gtA ok_cmp (p_var (pv 0)) (p_of e_int) (nomark _))
  (ss_one (s_ret e_int))
  ss_nil)
  (ss_cons (s_if (t_cmp op_ltA ok_cmp (p_var (pv 0)) (p_of e_int) (nomark _))
  (ss_one (s_ret (e_neg (p_of e_int))))
  ss_nil)
  (ss_one (s_ret e_int))))
theorem b__law_sum_sign (x : Fx P K mg) : Binds K x.d__law_sum_sign ["u", "v", "d"] [] := x.F__law_sum_sign.bindsN fun _ _ _ _ _ _ us hl => match us, hl with | [_, _, _], _ => rfl
theorem ok__law_sum_sign (x : Fx P K mg) : FnOk P w K mg base (L2.CX P w) 2 x.a__law_sum_sign x.d__law_sum_sign ["u", "v", "d"] (spF K mg M__law_sum_sign 3) := by
  refine ok_fun (He5.fun_of x.F__law_sum_sign) sc__law_sum_sign (by decide) fun cdv A outer s0 H E hr B F0 => ?_
  have po := passes_of (X := cxOf (L2.CX P w) P w K mg base N__law_sum_sign "_law_sum_sign" (defScope s__law_sum_sign) x.a__law_sum_sign cdv A outer s0 H E) rfl
  have tk := takes_of (X := cxOf (L2.CX P w) P w K mg base N__law_sum_sign "_law_sum_sign" (defScope s__law_sum_sign) x.a__law_sum_sign cdv A outer s0 H E) rfl rfl rfl rfl
  exact (ss_cons (s_set (i := 3) sc__law_sum_sign.nd rfl (by first | exact Or.inl rfl | exact Or.inr rfl) (e_call (ok__law_sign x) (hr.mono (by first | decide | omega)) rfl rfl tk (fun ds h => runF_len ds h) (by rfl) x.g__law_sign x.F__law_sign.kp (b__law_sign x) (c_val (f_of (e_ix rfl (p_var (pv 0)) (p_of e_int) (fun _ _ => rfl))) c_nil)))
  (ss_cons (s_set (i := 4) sc__law_sum_sign.nd rfl (by first | exact Or.inl rfl | exact Or.inr rfl) (e_call (ok__law_sign x) (hr.mono (by first | decide | omega)) rfl rfl tk (fun ds h => runF_len ds h) (by rfl) x.g__law_sign x.F__law_sign.kp (b__law_sign x) (c_val (f_of (e_ix rfl (p_var (pv 1)) (p_of e_int) (fun _ _ => rfl))) c_nil)))
  (ss_cons (s_if (t_cmp (op_eqD hr.units) ok_eq (p_of (e_ix rfl (p_var (pv 2)) (p_of e_int) (fun _ _ => rfl))) (p_of e_int) (nomark _))
  (ss_one (s_set (i := 4) sc__law_sum_sign.nd rfl (by first | exact Or.inl rfl | exact Or.inr rfl) e_int))
  ss_nil)
  (ss_cons (s_if (w_or (t_cmp (op_eqD hr.units) ok_eq (p_var (pv 3)) (p_of e_int) (nomark _)) (w_or1 (t_cmp (op_eqD hr.units) ok_eq (p_var (pv 3)) (p_var (pv 4)) (nomark _)))).pt
  (ss_one (s_retV (pv 4)))
  ss_nil)
  (ss_cons (s_if (t_cmp (op_eqD hr.units) ok_eq (p_var (pv 4)) (p_of e_int) (nomark _))
  (ss_one (s_retV (pv 3)))
  ss_nil)
  (ss_cons (s_set (i := 5) sc__law_sum_sign.nd rfl (by first | exact Or.inl rfl | exact Or.inr rfl) (e_call (ok__law_sign x) (hr.mono (by first | decide | omega)) rfl rfl tk (fun ds h => runF_len ds h) (by rfl) x.g__law_sign x.F__law_sign.kp (b__law_sign x) (c_val (f_of (e_bin op_sub ok_sub (p_of (e_bin op_mulA ok_mul (p_of (e_bin op_mulA ok_mul (p_of (e_bin op_mulA ok_mul (p_of (e_bin op_mulA ok_mul (p_of (e_ix rfl (p_var (pv 0)) (p_of e_int) (fun _ _ => rfl))) (p_of (e_ix rfl (p_var (pv 0)) (p_of e_int) (fun _ _ => rfl))))) (p_of (e_ix rfl (p_var (pv 1)) (p_of e_int) (fun _ _ => rfl))))) (p_of (e_ix rfl (p_var (pv 1)) (p_of e_int) (fun _ _ => rfl))))) (p_of (e_ix rfl (p_var (pv 2)) (p_of e_int) (fun _ _ => rfl))))) (p_of (e_bin op_mulA ok_mul (p_of (e_bin op_mulA ok_mul (p_of (e_bin op_mulA ok_mul (p_of (e_bin op_mulA ok_mul (p_of (e_ix rfl (p_var (pv 1)) (p_of e_int) (fun _ _ => rfl))) (p_of (e_ix rfl (p_var (pv 1)) (p_of e_int) (fun _ _ => rfl))))) (p_of (e_ix rfl (p_var (pv 2)) (p_of e_int) (fun _ _ => rfl))))) (p_of (e_ix rfl (p_var (pv 0)) (p_of e_int) (fun _ _ => rfl))))) (p_of (e_ix rfl (p_var (pv 0)) (p_of e_int) (fun _ _ => rfl))))))) c_nil)))
  (ss_cons (s_if (t_cmp (op_eqD hr.units) ok_eq (p_var (pv 5)) (p_of e_int) (nomark _))
  (ss_one (s_ret e_int))
  ss_nil)
  (ss_cons (s_if (t_cmp op_gtA ok_cmp (p_var (pv 5)) (p_of e_int) (nomark _))
  (ss_one (s_retV (pv 3)))
  ss_nil)
  (ss_one (s_retV (pv 4)))))))))))
theorem b_negative (x : Fx P K mg) : Binds K x.d_negative ["r"] [] := x.F_negative.bindsN fun _ _ _ _ _ _ us hl => match us, hl with | [_], _ => rfl
theorem ok_negative (x : Fx P K mg) : FnOk P w K mg base (L2.CX P w) 1 x.a_negative x.d_negative ["r"] (spF K mg M_negative 1) := by
  refine ok_fun (He5.fun_of x.F_negative) sc_negative (by decide) fun cdv A outer s0 H E hr B F0 => ?_
  have po := passes_of (X := cxOf (L2.CX P w) P w K mg base N_negative "negative" (defScope s_negative) x.a_negative cdv A outer s0 H E) rfl
  have tk := takes_of (X := cxOf (L2.CX P w) P w K mg base N_negative "negative" (defScope s_negative) x.a_negative cdv A outer s0 H E) rfl rfl rfl rfl
  exact (ss_one (s_ret (e_tup (a_cons (f_of (e_neg (p_of (e_ix rfl (p_var (pv 0)) (p_of e_int) (fun _ _ => rfl))))) (a_cons (f_of (e_ix rfl (p_var (pv 0)) (p_of e_int) (fun _ _ => rfl))) a_nil)))))
theorem b_ratio (x : Fx P K mg) : Binds K x.d_ratio ["p", "q"] [] := x.F_ratio.bindsN fun _ _ _ _ _ _ us hl => match us, hl with | [_, _], _ => rfl
theorem ok_ratio (x : Fx P K mg) : FnOk P w K mg base (L2.CX P w) 1 x.a_ratio x.d_ratio ["p", "q"] (spF K mg M_ratio 2) := by
  refine ok_fun (He5.fun_of x.F_ratio) sc_ratio (by decide) fun cdv A outer s0 H E hr B F0 => ?_
  have po := passes_of (X := cxOf (L2.CX P w) P w K mg base N_ratio "ratio" (defScope s_ratio) x.a_ratio cdv A outer s0 H E) rfl
  have tk := takes_of (X := cxOf (L2.CX P w) P w K mg base N_ratio "ratio" (defScope s_ratio) x.a_ratio cdv A outer s0 H E) rfl rfl rfl rfl
  exact (ss_cons (s_if (t_cmp (op_eqD hr.units) ok_eq (p_var (pv 1)) (p_of e_int) (nomark _))
  (ss_one (s_raise0 tk rfl rfl PySem.F.excBase_ValueError (He.exc_ok x.r_BadNumber).1 x.k_BadNumber.1 (He.exc_ok x.r_BadNumber).2.1 (raises_own (He.exc_ok x.r_BadNumber).2.2.1 (He.exc_ok x.r_BadNumber).2.2.2) (by rfl)))
  ss_nil)
  (ss_cons (s_set (i := 2) sc_ratio.nd rfl (by first | exact Or.inl rfl | exact Or.inr rfl) (e_bfn cr_gcd ok_gcd (by rfl) x.f_gcd (q_cons (p_var (pv 0)) (q_cons (p_var (pv 1)) q_nil))))
  (ss_cons (s_if (t_cmp op_ltA ok_cmp (p_var (pv 1)) (p_of e_int) (nomark _))
  (ss_one (s_set (i := 2) sc_ratio.nd rfl (by first | exact Or.inl rfl | exact Or.inr rfl) (e_neg (p_var (pv 2)))))
  ss_nil)
  (ss_one (s_ret (e_tup (a_cons (f_of (e_bin op_fdivX ok_fdivX (p_var (pv 0)) (p_var (pv 2)))) (a_cons (f_of (e_bin op_fdivX ok_fdivX (p_var (pv 1)) (p_var (pv 2)))) a_nil))))))))
theorem b_plus (x : Fx P K mg) : Binds K x.d_plus ["r", "s"] [] := x.F_plus.bindsN fun _ _ _ _ _ _ us hl => match us, hl with | [_, _], _ => rfl
theorem ok_plus (x : Fx P K mg) : FnOk P w K mg base (L2.CX P w) 2 x.a_plus x.d_plus ["r", "s"] (spF K mg M_plus 2) := by
  refine ok_fun (He5.fun_of x.F_plus) sc_plus (by decide) fun cdv A outer s0 H E hr B F0 => ?_
  have po := passes_of (X := cxOf (L2.CX P w) P w K mg base N_plus "plus" (defScope s_plus) x.a_plus cdv A outer s0 H E) rfl
  have tk := takes_of (X := cxOf (L2.CX P w) P w K mg base N_plus "plus" (defScope s_plus) x.a_plus cdv A outer s0 H E) rfl rfl rfl rfl
  exact (ss_one (s_ret (e_call (ok_ratio x) (hr.mono (by first | decide | omega)) rfl rfl tk (fun ds h => runF_len ds h) (by rfl) x.g_ratio x.F_ratio.kp (b_ratio x) (c_val (f_of (e_bin op_addA ok_add (p_of (e_bin op_mulA ok_mul (p_of (e_ix rfl (p_var (pv 0)) (p_of e_int) (fun _ _ => rfl))) (p_of (e_ix rfl (p_var (pv 1)) (p_of e_int) (fun _ _ => rfl))))) (p_of (e_bin op_mulA ok_mul (p_of (e_ix rfl (p_var (pv 1)) (p_of e_int) (fun _ _ => rfl))) (p_of (e_ix rfl (p_var (pv 0)) (p_of e_int) (fun _ _ => rfl))))))) (c_val (f_of (e_bin op_mulA ok_mul (p_of (e_ix rfl (p_var (pv 0)) (p_of e_int) (fun _ _ => rfl))) (p_of (e_ix rfl (p_var (pv 1)) (p_of e_int) (fun _ _ => rfl))))) c_nil)))))
theorem b_minus (x : Fx P K mg) : Binds K x.d_minus ["r", "s"] [] := x.F_minus.bindsN fun _ _ _ _ _ _ us hl => match us, hl with | [_, _], _ => rfl
theorem ok_minus (x : Fx P K mg) : FnOk P w K mg base (L2.CX P w) 3 x.a_minus x.d_minus ["r", "s"] (spF K mg M_minus 2) := by
  refine ok_fun (He5.fun_of x.F_minus) sc_minus (by decide) fun cdv A outer s0 H E hr B F0 => ?_
  have po := passes_of (X := cxOf (L2.CX P w) P w K mg base N_minus "minus" (defScope s_minus) x.a_minus cdv A outer s0 H E) rfl
  have tk := takes_of (X := cxOf (L2.CX P w) P w K mg base N_minus "minus" (defScope s_minus) x.a_minus cdv A outer s0 H E) rfl rfl rfl rfl
  exact (ss_one (s_ret (e_call (ok_plus x) (hr.mono (by first | decide | omega)) rfl rfl tk (fun ds h => runF_len ds h) (by rfl) x.g_plus x.F_plus.kp (b_plus x) (c_vw (pv 0) (c_val (f_of (e_call (ok_negative x) (hr.mono (by first | decide | omega)) rfl rfl tk (fun ds h => runF_len ds h) (by rfl) x.g_negative x.F_negative.kp (b_negative x) (c_vw (pv 1) c_nil))) c_nil)))))
theorem b_sign (x : Fx P K mg) : Binds K x.d_sign ["r"] [] := x.F_sign.bindsN fun _ _ _ _ _ _ us hl => match us, hl with | [_], _ => rfl
theorem ok_sign (x : Fx P K mg) : FnOk P w K mg base (L2.CX P w) 1 x.a_sign x.d_sign ["r"] (spF K mg M_sign 1) := by
  refine ok_fun (He5.fun_of x.F_sign) sc_sign (by decide) fun cdv A outer s0 H E hr B F0 => ?_
  have po := passes_of (X := cxOf (L2.CX P w) P w K mg base N_sign "sign" (defScope s_sign) x.a_sign cdv A outer s0 H E) rfl
  have tk := takes_of (X := cxOf (L2.CX P w) P w K mg base N_sign "sign" (defScope s_sign) x.a_sign cdv A outer s0 H E) rfl rfl rfl rfl
  exact (ss_one (s_ret (e_bin op_sub ok_sub (p_of (e_typ op_int1 ok_int (by rfl) x.m_int (by decide +kernel) (q_cons (p_of (e_cmp op_gtA ok_cmp (p_of (e_ix rfl (p_var (pv 0)) (p_of e_int) (fun _ _ => rfl))) (p_of e_int) (nomark _))) q_nil))) (p_of (e_typ op_int1 ok_int (by rfl) x.m_int (by decide +kernel) (q_cons (p_of (e_cmp op_ltA ok_cmp (p_of (e_ix rfl (p_var (pv 0)) (p_of e_int) (fun _ _ => rfl))) (p_of e_int) (nomark _))) q_nil))))))
theorem b_times (x : Fx P K mg) : Binds K x.d_times ["r", "s"] [] := x.F_times.bindsN fun _ _ _ _ _ _ us hl => match us, hl with | [_, _], _ => rfl
theorem ok_times (x : Fx P K mg) : FnOk P w K mg base (L2.CX P w) 2 x.a_times x.d_times ["r", "s"] (spF K mg M_times 2) := by
  refine ok_fun (He5.fun_of x.F_times) sc_times (by decide) fun cdv A outer s0 H E hr B F0 => ?_
  have po := passes_of (X := cxOf (L2.CX P w) P w K mg base N_times "times" (defScope s_times) x.a_times cdv A outer s0 H E) rfl
  have tk := takes_of (X := cxOf (L2.CX P w) P w K mg base N_times "times" (defScope s_times) x.a_times cdv A outer s0 H E) rfl rfl rfl rfl
  exact (ss_one (s_ret (e_call (ok_ratio x) (hr.mono (by first | decide | omega)) rfl rfl tk (fun ds h => runF_len ds h) (by rfl) x.g_ratio x.F_ratio.kp (b_ratio x) (c_val (f_of (e_bin op_mulA ok_mul (p_of (e_ix rfl (p_var (pv 0)) (p_of e_int) (fun _ _ => rfl))) (p_of (e_ix rfl (p_var (pv 1)) (p_of e_int) (fun _ _ => rfl))))) (c_val (f_of (e_bin op_mulA ok_mul (p_of (e_ix rfl (p_var (pv 0)) (p_of e_int) (fun _ _ => rfl))) (p_of (e_ix rfl (p_var (pv 1)) (p_of e_int) (fun _ _ => rfl))))) c_nil)))))
theorem b_compare (x : Fx P K mg) : Binds K x.d_compare ["r", "s"] [] := x.F_compare.bindsN fun _ _ _ _ _ _ us hl => match us, hl with | [_, _], _ => rfl
theorem ok_compare (x : Fx P K mg) : FnOk P w K mg base (L2.CX P w) 4 x.a_compare x.d_compare ["r", "s"] (spF K mg M_compare 2) := by
  refine ok_fun (He5.fun_of x.F_compare) sc_compare (by decide) fun cdv A outer s0 H E hr B F0 => ?_
  have po := passes_of (X := cxOf (L2.CX P w) P w K mg base N_compare "compare" (defScope s_compare) x.a_compare cdv A outer s0 H E) rfl
  have tk := takes_of (X := cxOf (L2.CX P w) P w K mg base N_compare "compare" (defScope s_compare) x.a_compare cdv A outer s0 H E) rfl rfl rfl rfl
  exact (ss_one (s_ret (e_call (ok_sign x) (hr.mono (by first | decide | omega)) rfl rfl tk (fun ds h => runF_len ds h) (by rfl) x.g_sign x.F_sign.kp (b_sign x) (c_val (f_of (e_call (ok_minus x) (hr.mono (by first | decide | omega)) rfl rfl tk (fun ds h => runF_len ds h) (by rfl) x.g_minus x.F_minus.kp (b_minus x) (c_vw (pv 0) (c_vw (pv 1) c_nil)))) c_nil))))
theorem b_sign_beside (x : Fx P K mg) : Binds K x.d_sign_beside ["u", "v", "d"] [] := x.F_sign_beside.bindsN fun _ _ _ _ _ _ us hl => match us, hl with | [_, _, _], _ => rfl
theorem ok_sign_beside (x : Fx P K mg) : FnOk P w K mg base (L2.CX P w) 5 x.a_sign_beside x.d_sign_beside ["u", "v", "d"] (spF K mg M_sign_beside 3) := by
  refine ok_fun (He5.fun_of x.F_sign_beside) sc_sign_beside (by decide) fun cdv A outer s0 H E hr B F0 => ?_
  have po := passes_of (X := cxOf (L2.CX P w) P w K mg base N_sign_beside "sign_beside" (defScope s_sign_beside) x.a_sign_beside cdv A outer s0 H E) rfl
  have tk := takes_of (X := cxOf (L2.CX P w) P w K mg base N_sign_beside "sign_beside" (defScope s_sign_beside) x.a_sign_beside cdv A outer s0 H E) rfl rfl rfl rfl
  exact (ss_one (s_ret (e_call (ok_compare x) (hr.mono (by first | decide | omega)) rfl rfl tk (fun ds h => runF_len ds h) (by rfl) x.g_compare x.F_compare.kp (b_compare x) (c_val (f_of (e_call (ok_times x) (hr.mono (by first | decide | omega)) rfl rfl tk (fun ds h => runF_len ds h) (by rfl) x.g_times x.F_times.kp (b_times x) (c_vw (pv 0) (c_vw (pv 0) c_nil)))) (c_val (f_of (e_call (ok_times x) (hr.mono (by first | decide | omega)) rfl rfl tk (fun ds h => runF_len ds h) (by rfl) x.g_times x.F_times.kp (b_times x) (c_val (f_of (e_call (ok_times x) (hr.mono (by first | decide | omega)) rfl rfl tk (fun ds h => runF_len ds h) (by rfl) x.g_times x.F_times.kp (b_times x) (c_vw (pv 1) (c_vw (pv 1) c_nil)))) (c_vw (pv 2) c_nil)))) c_nil)))))
theorem b_sign_of_sum (x : Fx P K mg) : Binds K x.d_sign_of_sum ["u", "v", "d"] [] := x.F_sign_of_sum.bindsN fun _ _ _ _ _ _ us hl => match us, hl with | [_, _, _], _ => rfl
theorem ok_sign_of_sum (x : Fx P K mg) : FnOk P w K mg base (L2.CX P w) 6 x.a_sign_of_sum x.d_sign_of_sum ["u", "v", "d"] (spF K mg M_sign_of_sum 3) := by
  refine ok_fun (He5.fun_of x.F_sign_of_sum) sc_sign_of_sum (by decide) fun cdv A outer s0 H E hr B F0 => ?_
  have po := passes_of (X := cxOf (L2.CX P w) P w K mg base N_sign_of_sum "sign_of_sum" (defScope s_sign_of_sum) x.a_sign_of_sum cdv A outer s0 H E) rfl
  have tk := takes_of (X := cxOf (L2.CX P w) P w K mg base N_sign_of_sum "sign_of_sum" (defScope s_sign_of_sum) x.a_sign_of_sum cdv A outer s0 H E) rfl rfl rfl rfl
  exact (ss_cons (s_set (i := 3) sc_sign_of_sum.nd rfl (by first | exact Or.inl rfl | exact Or.inr rfl) (e_bin op_mulA ok_mul (p_of (e_call (ok_sign x) (hr.mono (by first | decide | omega)) rfl rfl tk (fun ds h => runF_len ds h) (by rfl) x.g_sign x.F_sign.kp (b_sign x) (c_vw (pv 1) c_nil))) (p_of (e_call (ok_sign x) (hr.mono (by first | decide | omega)) rfl rfl tk (fun ds h => runF_len ds h) (by rfl) x.g_sign x.F_sign.kp (b_sign x) (c_vw (pv 2) c_nil)))))
  (ss_cons (s_if (w_or (t_cmp (op_eqD hr.units) ok_eq (p_var (pv 3)) (p_of e_int) (nomark _)) (w_or1 (t_cmp (op_eqD hr.units) ok_eq (p_of (e_call (ok_sign x) (hr.mono (by first | decide | omega)) rfl rfl tk (fun ds h => runF_len ds h) (by rfl) x.g_sign x.F_sign.kp (b_sign x) (c_vw (pv 0) c_nil))) (p_var (pv 3)) (nomark _)))).pt
  (ss_one (s_ret (e_call (ok_sign x) (hr.mono (by first | decide | omega)) rfl rfl tk (fun ds h => runF_len ds h) (by rfl) x.g_sign x.F_sign.kp (b_sign x) (c_vw (pv 0) c_nil))))
  ss_nil)
  (ss_cons (s_if (t_cmp (op_eqD hr.units) ok_eq (p_of (e_call (ok_sign x) (hr.mono (by first | decide | omega)) rfl rfl tk (fun ds h => runF_len ds h) (by rfl) x.g_sign x.F_sign.kp (b_sign x) (c_vw (pv 0) c_nil))) (p_of e_int) (nomark _))
  (ss_one (s_retV (pv 3)))
  ss_nil)
  (ss_cons (s_if (t_cmp op_ltA ok_cmp (p_var (pv 3)) (p_of e_int) (nomark _))
  (ss_one (s_ret (e_call (ok_sign_beside x) (hr.mono (by first | decide | omega)) rfl rfl tk (fun ds h => runF_len ds h) (by rfl) x.g_sign_beside x.F_sign_beside.kp (b_sign_beside x) (c_vw (pv 0) (c_vw (pv 1) (c_vw (pv 2) c_nil))))))
  ss_nil)
  (ss_one (s_ret (e_neg (p_of (e_call (ok_sign_beside x) (hr.mono (by first | decide | omega)) rfl rfl tk (fun ds h => runF_len ds h) (by rfl) x.g_sign_beside x.F_sign_beside.kp (b_sign_beside x) (c_val (f_of (e_call (ok_negative x) (hr.mono (by first | decide | omega)) rfl rfl tk (fun ds h => runF_len ds h) (by rfl) x.g_negative x.F_negative.kp (b_negative x) (c_vw (pv 0) c_nil))) (c_val (f_of (e_call (ok_negative x) (hr.mono (by first | decide | omega)) rfl rfl tk (fun ds h => runF_len ds h) (by rfl) x.g_negative x.F_negative.kp (b_negative x) (c_vw (pv 1) c_nil))) (c_vw (pv 2) c_nil))))))))))))
theorem b_compare_sum (x : Fx P K mg) : Binds K x.d_compare_sum ["u", "v", "d", "r"] [] := x.F_compare_sum.bindsN fun _ _ _ _ _ _ us hl => match us, hl with | [_, _, _, _], _ => rfl
theorem ok_compare_sum (x : Fx P K mg) : FnOk P w K mg base (L2.CX P w) 7 x.a_compare_sum x.d_compare_sum ["u", "v", "d", "r"] (spF K mg M_compare_sum 4) := by
  refine ok_fun (He5.fun_of x.F_compare_sum) sc_compare_sum (by decide) fun cdv A outer s0 H E hr B F0 => ?_
  have po := passes_of (X := cxOf (L2.CX P w) P w K mg base N_compare_sum "compare_sum" (defScope s_compare_sum) x.a_compare_sum cdv A outer s0 H E) rfl
  have tk := takes_of (X := cxOf (L2.CX P w) P w K mg base N_compare_sum "compare_sum" (defScope s_compare_sum) x.a_compare_sum cdv A outer s0 H E) rfl rfl rfl rfl
  exact (ss_one (s_ret (e_call (ok_sign_of_sum x) (hr.mono (by first | decide | omega)) rfl rfl tk (fun ds h => runF_len ds h) (by rfl) x.g_sign_of_sum x.F_sign_of_sum.kp (b_sign_of_sum x) (c_val (f_of (e_call (ok_minus x) (hr.mono (by first | decide | omega)) rfl rfl tk (fun ds h => runF_len ds h) (by rfl) x.g_minus x.F_minus.kp (b_minus x) (c_vw (pv 0) (c_vw (pv 3) c_nil)))) (c_vw (pv 1) (c_vw (pv 2) c_nil))))))
theorem b__law_same (x : Fx P K mg) : Binds K x.d__law_same ["actual", "due"] [] := x.F__law_same.bindsN fun _ _ _ _ _ _ us hl => match us, hl with | [_, _], _ => rfl
theorem ok__law_same (x : Fx P K mg) : ∀ nn : Nat, FnOk P w K mg base (L2.CX P w) (1 + nn) x.a__law_same x.d__law_same ["actual", "due"] (spF K mg (M__law_same nn) 2) := by
  intro nn
  induction nn with
  | zero => exact fn_bad
  | succ nn ih =>
  refine ok_fun (k := 1 + nn) (S := S__law_same (M__law_same nn)) (He5.fun_of x.F__law_same) sc__law_same (by decide) fun cdv A outer s0 H E hr B F0 => ?_
  have po := passes_of (X := cxOf (L2.CX P w) P w K mg base N__law_same "_law_same" (defScope s__law_same) x.a__law_same cdv A outer s0 H E) rfl
  have tk := takes_of (X := cxOf (L2.CX P w) P w K mg base N__law_same "_law_same" (defScope s__law_same) x.a__law_same cdv A outer s0 H E) rfl rfl rfl rfl
  revert ih
  intro ih
  let g := M__law_same nn
  exact (ss_cons (s_if (t_cmp op_isA ok_is (p_var (pv 1)) (p_of e_non) (nomark _))
  (ss_one (s_ret (e_cmp op_isA ok_is (p_var (pv 0)) (p_of e_non) (nomark _))))
  ss_nil)
  (ss_cons (s_if (t_cmp op_isA ok_is (p_var (pv 1)) (p_of e_bl) (nomark _))
  (ss_one (s_ret (e_cmp op_isA ok_is (p_var (pv 0)) (p_of e_bl) (nomark _))))
  ss_nil)
  (ss_cons (s_if (t_cmp op_isA ok_is (p_var (pv 1)) (p_of e_bl) (nomark _))
  (ss_one (s_ret (e_cmp op_isA ok_is (p_var (pv 0)) (p_of e_bl) (nomark _))))
  ss_nil)
  (ss_cons (s_if (t_tru rfl (p_of (e_isi (e_blt call_isi (ok_isi (by decide)) (by rfl) x.m_isinstance (by decide +kernel) (q_cons (p_var (pv 1)) (q_cons (p_ty .int (by rfl) x.m_int (by decide +kernel)) q_nil))))) (fun _ => by rfl))
  (ss_one (s_ret (v_and (e_isi (e_blt call_isi (ok_isi (by decide)) (by rfl) x.m_isinstance (by decide +kernel) (q_cons (p_var (pv 0)) (q_cons (p_ty .int (by rfl) x.m_int (by decide +kernel)) q_nil)))) (v_and (v_not (e_isi (e_blt call_isi (ok_isi (by decide)) (by rfl) x.m_isinstance (by decide +kernel) (q_cons (p_var (pv 0)) (q_cons (p_ty .bl (by rfl) x.m_bool (by decide +kernel)) q_nil))))) (v_one (e_cmp (op_eqD hr.units) ok_eq (p_var (pv 0)) (p_var (pv 1)) (nomark _)))))))
  ss_nil)
  (ss_cons (s_if (t_tru rfl (p_of (e_isi (e_blt call_isi (ok_isi (by decide)) (by rfl) x.m_isinstance (by decide +kernel) (q_cons (p_var (pv 1)) (q_cons (p_ty .str (by rfl) x.m_str (by decide +kernel)) q_nil))))) (fun _ => by rfl))
  (ss_one (s_ret (v_and (e_isi (e_blt call_isi (ok_isi (by decide)) (by rfl) x.m_isinstance (by decide +kernel) (q_cons (p_var (pv 0)) (q_cons (p_ty .str (by rfl) x.m_str (by decide +kernel)) q_nil)))) (v_one (e_cmp (op_eqD hr.units) ok_eq (p_var (pv 0)) (p_var (pv 1)) (nomark _))))))
  ss_nil)
  (ss_cons (s_if (w_and (t_tru rfl (p_of (e_isi (e_blt call_isi (ok_isi (by decide)) (by rfl) x.m_isinstance (by decide +kernel) (q_cons (p_var (pv 1)) (q_cons (p_ty .tup (by rfl) x.m_tuple (by decide +kernel)) q_nil))))) (fun _ => by rfl)) (w_and1 (t_not (t_tru rfl (p_of (e_isi (e_blt call_isi (ok_isi (by decide)) (by rfl) x.m_isinstance (by decide +kernel) (q_cons (p_var (pv 0)) (q_cons (p_ty .tup (by rfl) x.m_tuple (by decide +kernel)) q_nil))))) (fun _ => by rfl))))).pt
  (ss_one (s_ret e_bl))
  ss_nil)
  (ss_cons (s_if (w_and (t_tru rfl (p_of (e_isi (e_blt call_isi (ok_isi (by decide)) (by rfl) x.m_isinstance (by decide +kernel) (q_cons (p_var (pv 1)) (q_cons (p_ty .lst (by rfl) x.m_list (by decide +kernel)) q_nil))))) (fun _ => by rfl)) (w_and1 (t_not (t_tru rfl (p_of (e_isi (e_blt call_isi (ok_isi (by decide)) (by rfl) x.m_isinstance (by decide +kernel) (q_cons (p_var (pv 0)) (q_cons (p_ty .lst (by rfl) x.m_list (by decide +kernel)) q_nil))))) (fun _ => by rfl))))).pt
  (ss_one (s_ret e_bl))
  ss_nil)
  (ss_cons (s_if (t_cmp (op_neD hr.units) ok_ne (p_of (e_blt op_lenA ok_len (by rfl) x.m_len (by decide +kernel) (q_cons (p_var (pv 0)) q_nil))) (p_of (e_blt op_lenA ok_len (by rfl) x.m_len (by decide +kernel) (q_cons (p_var (pv 1)) q_nil))) (nomark _))
  (ss_one (s_ret e_bl))
  ss_nil)
  (ss_cons (s_for (S1 := (L1__law_same g)) po rfl (k_rng1 (by rfl) x.m_range (q_cons (p_of (e_blt op_lenA ok_len (by rfl) x.m_len (by decide +kernel) (q_cons (p_var (pv 1)) q_nil))) q_nil)) (pg_name (i := 2) sc__law_same.nd rfl (by first | exact Or.inl rfl | exact Or.inr rfl)) g_name fun F0 =>
  (ss_one (s_if (t_not (t_tru rfl (p_of (e_call ih (hr.mono (by omega)) rfl rfl tk (fun ds h => len__law_same _ ds h) (by rfl) x.g__law_same x.F__law_same.kp (b__law_same x) (c_val (f_of (e_ix rfl (p_var (pv 0)) (p_var (pv 2)) (fun _ _ => rfl))) (c_val (f_of (e_ix rfl (p_var (pv 1)) (p_var (pv 2)) (fun _ _ => rfl))) c_nil)))) (fun _ => by rfl)))
  (ss_one (s_ret e_bl))
  ss_nil)))
  (ss_one (s_ret e_bl)))))))))))
theorem b__law_compared (x : Fx P K mg) : Binds K x.d__law_compared ["u", "v", "d", "r"] [] := x.F__law_compared.bindsN fun _ _ _ _ _ _ us hl => match us, hl with | [_, _, _, _], _ => rfl
theorem ok__law_compared (x : Fx P K mg) : FnOk P w K mg base (L2.CX P w) 14 x.a__law_compared x.d__law_compared ["u", "v", "d", "r"] (spF K mg M__law_compared 4) := by
  refine ok_fun (He5.fun_of x.F__law_compared) sc__law_compared (by decide) fun cdv A outer s0 H E hr B F0 => ?_
  have po := passes_of (X := cxOf (L2.CX P w) P w K mg base N__law_compared "_law_compared" (defScope s__law_compared) x.a__law_compared cdv A outer s0 H E) rfl
  have tk := takes_of (X := cxOf (L2.CX P w) P w K mg base N__law_compared "_law_compared" (defScope s__law_compared) x.a__law_compared cdv A outer s0 H E) rfl rfl rfl rfl
  exact (ss_one (s_ret (e_call (ok__law_same x 12) (hr.mono (by first | decide | omega)) rfl rfl tk (fun ds h => len__law_same _ ds h) (by rfl) x.g__law_same x.F__law_same.kp (b__law_same x) (c_val (f_of (e_call (ok_compare_sum x) (hr.mono (by first | decide | omega)) rfl rfl tk (fun ds h => runF_len ds h) (by rfl) x.g_compare_sum x.F_compare_sum.kp (b_compare_sum x) (c_vw (pv 0) (c_vw (pv 1) (c_vw (pv 2) (c_vw (pv 3) c_nil)))))) (c_val (f_of (e_call (ok__law_sum_sign x) (hr.mono (by first | decide | omega)) rfl rfl tk (fun ds h => runF_len ds h) (by rfl) x.g__law_sum_sign x.F__law_sum_sign.kp (b__law_sum_sign x) (c_val (f_of (e_call (ok__law_less x) (hr.mono (by first | decide | omega)) rfl rfl tk (fun ds h => runF_len ds h) (by rfl) x.g__law_less x.F__law_less.kp (b__law_less x) (c_vw (pv 0) (c_vw (pv 3) c_nil)))) (c_vw (pv 1) (c_vw (pv 2) c_nil))))) c_nil)))))
theorem b__law_root (x : Fx P K mg) : Binds K x.d__law_root ["n"] [] := x.F__law_root.bindsN fun _ _ _ _ _ _ us hl => match us, hl with | [_], _ => rfl
theorem ok__law_root (x : Fx P K mg) : FnOk P w K mg base (L2.CX P w) 1 x.a__law_root x.d__law_root ["n"] (spF K mg M__law_root 1) := by
  refine ok_fun (He5.fun_of x.F__law_root) sc__law_root (by decide) fun cdv A outer s0 H E hr B F0 => ?_
  have po := passes_of (X := cxOf (L2.CX P w) P w K mg base N__law_root "_law_root" (defScope s__law_root) x.a__law_root cdv A outer s0 H E) rfl
  have tk := takes_of (X := cxOf (L2.CX P w) P w K mg base N__law_root "_law_root" (defScope s__law_root) x.a__law_root cdv A outer s0 H E) rfl rfl rfl rfl
  exact (ss_cons (s_set (i := 1) sc__law_root.nd rfl (by first | exact Or.inl rfl | exact Or.inr rfl) e_int)
  (ss_cons (s_for (S1 := (L1__law_root)) po rfl (k_rng1 (by rfl) x.m_range (q_cons (p_of e_int) q_nil)) (pg_name (i := 2) sc__law_root.nd rfl (by first | exact Or.inl rfl | exact Or.inr rfl)) g_name fun F0 =>
  (ss_one (s_if (t_cmp op_leA ok_cmp (p_of (e_bin op_mulA ok_mul (p_var (pv 1)) (p_var (pv 1)))) (p_var (pv 0)) (nomark _))
  (ss_one (s_set (i := 1) sc__law_root.nd rfl (by first | exact Or.inl rfl | exact Or.inr rfl) (e_bin op_mulA ok_mul (p_var (pv 1)) (p_of e_int))))
  ss_nil)))
  (ss_cons (s_set (i := 3) sc__law_root.nd rfl (by first | exact Or.inl rfl | exact Or.inr rfl) e_int)
  (ss_cons (s_for (S1 := (L2__law_root)) po rfl (k_rng1 (by rfl) x.m_range (q_cons (p_of e_int) q_nil)) (pg_name (i := 2) sc__law_root.nd rfl (by first | exact Or.inl rfl | exact Or.inr rfl)) g_name fun F0 =>
  (ss_cons (s_if (t_cmp op_leA ok_cmp (p_of (e_bin op_mulA ok_mul (p_of (e_bin op_addA ok_add (p_var (pv 3)) (p_var (pv 1)))) (p_of (e_bin op_addA ok_add (p_var (pv 3)) (p_var (pv 1)))))) (p_var (pv 0)) (nomark _))
  (ss_one (s_set (i := 3) sc__law_root.nd rfl (by first | exact Or.inl rfl | exact Or.inr rfl) (e_bin op_addA ok_add (p_var (pv 3)) (p_var (pv 1)))))
  ss_nil)
  (ss_one (s_set (i := 1) sc__law_root.nd rfl (by first | exact Or.inl rfl | exact Or.inr rfl) (e_bin op_fdivX ok_fdivX (p_var (pv 1)) (p_of e_int))))))
  (ss_one (s_retV (pv 3)))))))
theorem b__law_floor (x : Fx P K mg) : Binds K x.d__law_floor ["u", "v", "d"] [] := x.F__law_floor.bindsN fun _ _ _ _ _ _ us hl => match us, hl with | [_, _, _], _ => rfl
theorem ok__law_floor (x : Fx P K mg) : FnOk P w K mg base (L2.CX P w) 2 x.a__law_floor x.d__law_floor ["u", "v", "d"] (spF K mg M__law_floor 3) := by
  refine ok_fun (He5.fun_of x.F__law_floor) sc__law_floor (by decide) fun cdv A outer s0 H E hr B F0 => ?_
  have po := passes_of (X := cxOf (L2.CX P w) P w K mg base N__law_floor "_law_floor" (defScope s__law_floor) x.a__law_floor cdv A outer s0 H E) rfl
  have tk := takes_of (X := cxOf (L2.CX P w) P w K mg base N__law_floor "_law_floor" (defScope s__law_floor) x.a__law_floor cdv A outer s0 H E) rfl rfl rfl rfl
  exact (ss_cons (s_set (i := 3) sc__law_floor.nd rfl (by first | exact Or.inl rfl | exact Or.inr rfl) (e_bin op_mulA ok_mul (p_of (e_bin op_mulA ok_mul (p_of (e_ix rfl (p_var (pv 1)) (p_of e_int) (fun _ _ => rfl))) (p_of (e_ix rfl (p_var (pv 1)) (p_of e_int) (fun _ _ => rfl))))) (p_of (e_ix rfl (p_var (pv 2)) (p_of e_int) (fun _ _ => rfl)))))
  (ss_cons (s_set (i := 4) sc__law_floor.nd rfl (by first | exact Or.inl rfl | exact Or.inr rfl) (e_bin op_mulA ok_mul (p_of (e_bin op_mulA ok_mul (p_of (e_ix rfl (p_var (pv 1)) (p_of e_int) (fun _ _ => rfl))) (p_of (e_ix rfl (p_var (pv 1)) (p_of e_int) (fun _ _ => rfl))))) (p_of (e_ix rfl (p_var (pv 2)) (p_of e_int) (fun _ _ => rfl)))))
  (ss_cons (s_set (i := 5) sc__law_floor.nd rfl (by first | exact Or.inl rfl | exact Or.inr rfl) (e_bin op_mulA ok_mul (p_of (e_bin op_mulA ok_mul (p_of (e_bin op_mulA ok_mul (p_var (pv 3)) (p_var (pv 4)))) (p_of (e_ix rfl (p_var (pv 0)) (p_of e_int) (fun _ _ => rfl))))) (p_of (e_ix rfl (p_var (pv 0)) (p_of e_int) (fun _ _ => rfl)))))
  (ss_cons (s_set (i := 6) sc__law_floor.nd rfl (by first | exact Or.inl rfl | exact Or.inr rfl) (e_call (ok__law_root x) (hr.mono (by first | decide | omega)) rfl rfl tk (fun ds h => runF_len ds h) (by rfl) x.g__law_root x.F__law_root.kp (b__law_root x) (c_vw (pv 5) c_nil)))
  (ss_cons (s_if (t_cmp op_geA ok_cmp (p_of (e_ix rfl (p_var (pv 1)) (p_of e_int) (fun _ _ => rfl))) (p_of e_int) (nomark _))
  (ss_one (s_ret (e_bin op_fdivX ok_fdivX (p_of (e_bin op_addA ok_add (p_of (e_bin op_mulA ok_mul (p_of (e_ix rfl (p_var (pv 0)) (p_of e_int) (fun _ _ => rfl))) (p_var (pv 4)))) (p_var (pv 6)))) (p_of (e_bin op_mulA ok_mul (p_of (e_ix rfl (p_var (pv 0)) (p_of e_int) (fun _ _ => rfl))) (p_var (pv 4)))))))
  ss_nil)
  (ss_cons (s_if (t_cmp op_ltA ok_cmp (p_of (e_bin op_mulA ok_mul (p_var (pv 6)) (p_var (pv 6)))) (p_var (pv 5)) (nomark _))
  (ss_one (s_set (i := 6) sc__law_floor.nd rfl (by first | exact Or.inl rfl | exact Or.inr rfl) (e_bin op_addA ok_add (p_var (pv 6)) (p_of e_int))))
  ss_nil)
  (ss_one (s_ret (e_bin op_fdivX ok_fdivX (p_of (e_bin op_sub ok_sub (p_of (e_bin op_mulA ok_mul (p_of (e_ix rfl (p_var (pv 0)) (p_of e_int) (fun _ _ => rfl))) (p_var (pv 4)))) (p_var (pv 6)))) (p_of (e_bin op_mulA ok_mul (p_of (e_ix rfl (p_var (pv 0)) (p_of e_int) (fun _ _ => rfl))) (p_var (pv 4)))))))))))))
theorem b_as_one_root (x : Fx P K mg) : Binds K x.d_as_one_root ["u", "v", "d"] [] := x.F_as_one_root.bindsN fun _ _ _ _ _ _ us hl => match us, hl with | [_, _, _], _ => rfl
theorem ok_as_one_root (x : Fx P K mg) : FnOk P w K mg base (L2.CX P w) 2 x.a_as_one_root x.d_as_one_root ["u", "v", "d"] (spF K mg M_as_one_root 3) := by
  refine ok_fun (He5.fun_of x.F_as_one_root) sc_as_one_root (by decide) fun cdv A outer s0 H E hr B F0 => ?_
  have po := passes_of (X := cxOf (L2.CX P w) P w K mg base N_as_one_root "as_one_root" (defScope s_as_one_root) x.a_as_one_root cdv A outer s0 H E) rfl
  have tk := takes_of (X := cxOf (L2.CX P w) P w K mg base N_as_one_root "as_one_root" (defScope s_as_one_root) x.a_as_one_root cdv A outer s0 H E) rfl rfl rfl rfl
  exact (ss_cons (s_set (i := 3) sc_as_one_root.nd rfl (by first | exact Or.inl rfl | exact Or.inr rfl) (e_bin op_mulA ok_mul (p_of (e_call (ok_sign x) (hr.mono (by first | decide | omega)) rfl rfl tk (fun ds h => runF_len ds h) (by rfl) x.g_sign x.F_sign.kp (b_sign x) (c_vw (pv 1) c_nil))) (p_of (e_call (ok_sign x) (hr.mono (by first | decide | omega)) rfl rfl tk (fun ds h => runF_len ds h) (by rfl) x.g_sign x.F_sign.kp (b_sign x) (c_vw (pv 2) c_nil)))))
  (ss_cons (s_set (i := 4) sc_as_one_root.nd rfl (by first | exact Or.inl rfl | exact Or.inr rfl) (e_bin op_mulA ok_mul (p_of (e_bin op_mulA ok_mul (p_of (e_ix rfl (p_var (pv 0)) (p_of e_int) (fun _ _ => rfl))) (p_of (e_ix rfl (p_var (pv 1)) (p_of e_int) (fun _ _ => rfl))))) (p_of (e_ix rfl (p_var (pv 2)) (p_of e_int) (fun _ _ => rfl)))))
  (ss_cons (s_set (i := 5) sc_as_one_root.nd rfl (by first | exact Or.inl rfl | exact Or.inr rfl) (e_bin op_mulA ok_mul (p_of (e_bin op_mulA ok_mul (p_of (e_bin op_pow2 ok_pow2 (p_of (e_bin op_mulA ok_mul (p_of (e_ix rfl (p_var (pv 0)) (p_of e_int) (fun _ _ => rfl))) (p_of (e_ix rfl (p_var (pv 1)) (p_of e_int) (fun _ _ => rfl))))) (p_of e_int))) (p_of (e_ix rfl (p_var (pv 2)) (p_of e_int) (fun _ _ => rfl))))) (p_of (e_ix rfl (p_var (pv 2)) (p_of e_int) (fun _ _ => rfl)))))
  (ss_one (s_ret (e_tup (a_cons (f_of (e_bin op_mulA ok_mul (p_of (e_bin op_mulA ok_mul (p_of (e_ix rfl (p_var (pv 0)) (p_of e_int) (fun _ _ => rfl))) (p_of (e_ix rfl (p_var (pv 1)) (p_of e_int) (fun _ _ => rfl))))) (p_of (e_ix rfl (p_var (pv 2)) (p_of e_int) (fun _ _ => rfl))))) (a_cons (f_of (e_var (pv 3))) (a_cons (f_of (e_var (pv 5))) (a_cons (f_of (e_var (pv 4))) a_nil))))))))))
theorem b_root_up (x : Fx P K mg) : Binds K x.d_root_up ["n"] [] := x.F_root_up.bindsN fun _ _ _ _ _ _ us hl => match us, hl with | [_], _ => rfl
theorem ok_root_up (x : Fx P K mg) : FnOk P w K mg base (L2.CX P w) 1 x.a_root_up x.d_root_up ["n"] (spF K mg M_root_up 1) := by
  refine ok_fun (He5.fun_of x.F_root_up) sc_root_up (by decide) fun cdv A outer s0 H E hr B F0 => ?_
  have po := passes_of (X := cxOf (L2.CX P w) P w K mg base N_root_up "root_up" (defScope s_root_up) x.a_root_up cdv A outer s0 H E) rfl
  have tk := takes_of (X := cxOf (L2.CX P w) P w K mg base N_root_up "root_up" (defScope s_root_up) x.a_root_up cdv A outer s0 H E) rfl rfl rfl rfl
  exact (ss_cons (s_set (i := 1) sc_root_up.nd rfl (by first | exact Or.inl rfl | exact Or.inr rfl) (e_bfn cr_isqrt ok_isqrt (by rfl) x.f_isqrt (q_cons (p_var (pv 0)) q_nil)))
  (ss_one (s_ret (e_iff (t_cmp (op_eqD hr.units) ok_eq (p_of (e_bin op_mulA ok_mul (p_var (pv 1)) (p_var (pv 1)))) (p_var (pv 0)) (nomark _)) (e_var (pv 1)) (e_bin op_addA ok_add (p_var (pv 1)) (p_of e_int))))))
theorem b_floor_of_sum (x : Fx P K mg) : Binds K x.d_floor_of_sum ["u", "v", "d"] [] := x.F_floor_of_sum.bindsN fun _ _ _ _ _ _ us hl => match us, hl with | [_, _, _], _ => rfl
theorem ok_floor_of_sum (x : Fx P K mg) : FnOk P w K mg base (L2.CX P w) 3 x.a_floor_of_sum x.d_floor_of_sum ["u", "v", "d"] (spF K mg M_floor_of_sum 3) := by
  refine ok_fun (He5.fun_of x.F_floor_of_sum) sc_floor_of_sum (by decide) fun cdv A outer s0 H E hr B F0 => ?_
  have po := passes_of (X := cxOf (L2.CX P w) P w K mg base N_floor_of_sum "floor_of_sum" (defScope s_floor_of_sum) x.a_floor_of_sum cdv A outer s0 H E) rfl
  have tk := takes_of (X := cxOf (L2.CX P w) P w K mg base N_floor_of_sum "floor_of_sum" (defScope s_floor_of_sum) x.a_floor_of_sum cdv A outer s0 H E) rfl rfl rfl rfl
  exact (ss_cons (s_tg (f_of (e_call (ok_as_one_root x) (hr.mono (by first | decide | omega)) rfl rfl tk (fun ds h => runF_len ds h) (by rfl) x.g_as_one_root x.F_as_one_root.kp (b_as_one_root x) (c_vw (pv 0) (c_vw (pv 1) (c_vw (pv 2) c_nil))))) (pg_tup rfl (pgs_cons (pg_name (i := 3) sc_floor_of_sum.nd rfl (by first | exact Or.inl rfl | exact Or.inr rfl)) (pgs_cons (pg_name (i := 4) sc_floor_of_sum.nd rfl (by first | exact Or.inl rfl | exact Or.inr rfl)) (pgs_cons (pg_name (i := 5) sc_floor_of_sum.nd rfl (by first | exact Or.inl rfl | exact Or.inr rfl)) (pgs_cons (pg_name (i := 6) sc_floor_of_sum.nd rfl (by first | exact Or.inl rfl | exact Or.inr rfl)) pgs_nil))))) (g_tup (g_cons g_name (g_cons g_name (g_cons g_name (g_cons g_name g_nil))))))
  (ss_cons (s_if (t_cmp op_geA ok_cmp (p_var (pv 4)) (p_of e_int) (nomark _))
  (ss_one (s_ret (e_bin op_fdivX ok_fdivX (p_of (e_bin op_addA ok_add (p_var (pv 3)) (p_of (e_bin op_mulA ok_mul (p_var (pv 4)) (p_of (e_bfn cr_isqrt ok_isqrt (by rfl) x.f_isqrt (q_cons (p_var (pv 5)) q_nil))))))) (p_var (pv 6)))))
  ss_nil)
  (ss_one (s_ret (e_bin op_fdivX ok_fdivX (p_of (e_bin op_sub ok_sub (p_var (pv 3)) (p_of (e_call (ok_root_up x) (hr.mono (by first | decide | omega)) rfl rfl tk (fun ds h => runF_len ds h) (by rfl) x.g_root_up x.F_root_up.kp (b_root_up x) (c_vw (pv 5) c_nil))))) (p_var (pv 6)))))))
theorem b_ceiling_of_sum (x : Fx P K mg) : Binds K x.d_ceiling_of_sum ["u", "v", "d"] [] := x.F_ceiling_of_sum.bindsN fun _ _ _ _ _ _ us hl => match us, hl with | [_, _, _], _ => rfl
theorem ok_ceiling_of_sum (x : Fx P K mg) : FnOk P w K mg base (L2.CX P w) 4 x.a_ceiling_of_sum x.d_ceiling_of_sum ["u", "v", "d"] (spF K mg M_ceiling_of_sum 3) := by
  refine ok_fun (He5.fun_of x.F_ceiling_of_sum) sc_ceiling_of_sum (by decide) fun cdv A outer s0 H E hr B F0 => ?_
  have po := passes_of (X := cxOf (L2.CX P w) P w K mg base N_ceiling_of_sum "ceiling_of_sum" (defScope s_ceiling_of_sum) x.a_ceiling_of_sum cdv A outer s0 H E) rfl
  have tk := takes_of (X := cxOf (L2.CX P w) P w K mg base N_ceiling_of_sum "ceiling_of_sum" (defScope s_ceiling_of_sum) x.a_ceiling_of_sum cdv A outer s0 H E) rfl rfl rfl rfl
  exact (ss_one (s_ret (e_neg (p_of (e_call (ok_floor_of_sum x) (hr.mono (by first | decide | omega)) rfl rfl tk (fun ds h => runF_len ds h) (by rfl) x.g_floor_of_sum x.F_floor_of_sum.kp (b_floor_of_sum x) (c_val (f_of (e_call (ok_negative x) (hr.mono (by first | decide | omega)) rfl rfl tk (fun ds h => runF_len ds h) (by rfl) x.g_negative x.F_negative.kp (b_negative x) (c_vw (pv 0) c_nil))) (c_val (f_of (e_call (ok_negative x) (hr.mono (by first | decide | omega)) rfl rfl tk (fun ds h => runF_len ds h) (by rfl) x.g_negative x.F_negative.kp (b_negative x) (c_vw (pv 1) c_nil))) (c_vw (pv 2) c_nil))))))))
theorem b__law_holds (x : Fx P K mg) : Binds K x.d__law_holds ["u", "v", "d"] [] := x.F__law_holds.bindsN fun _ _ _ _ _ _ us hl => match us, hl with | [_, _, _], _ => rfl
theorem ok__law_holds (x : Fx P K mg) : FnOk P w K mg base (L2.CX P w) 14 x.a__law_holds x.d__law_holds ["u", "v", "d"] (spF K mg M__law_holds 3) := by
  refine ok_fun (He5.fun_of x.F__law_holds) sc__law_holds (by decide) fun cdv A outer s0 H E hr B F0 => ?_
  have po := passes_of (X := cxOf (L2.CX P w) P w K mg base N__law_holds "_law_holds" (defScope s__law_holds) x.a__law_holds cdv A outer s0 H E) rfl
  have tk := takes_of (X := cxOf (L2.CX P w) P w K mg base N__law_holds "_law_holds" (defScope s__law_holds) x.a__law_holds cdv A outer s0 H E) rfl rfl rfl rfl
  exact (ss_cons (s_if (t_not (t_tru rfl (p_of (e_call (ok__law_same x 12) (hr.mono (by first | decide | omega)) rfl rfl tk (fun ds h => len__law_same _ ds h) (by rfl) x.g__law_same x.F__law_same.kp (b__law_same x) (c_val (f_of (e_call (ok_sign_of_sum x) (hr.mono (by first | decide | omega)) rfl rfl tk (fun ds h => runF_len ds h) (by rfl) x.g_sign_of_sum x.F_sign_of_sum.kp (b_sign_of_sum x) (c_vw (pv 0) (c_vw (pv 1) (c_vw (pv 2) c_nil))))) (c_val (f_of (e_call (ok__law_sum_sign x) (hr.mono (by first | decide | omega)) rfl rfl tk (fun ds h => runF_len ds h) (by rfl) x.g__law_sum_sign x.F__law_sum_sign.kp (b__law_sum_sign x) (c_vw (pv 0) (c_vw (pv 1) (c_vw (pv 2) c_nil))))) c_nil)))) (fun _ => by rfl)))
  (ss_one (s_ret e_bl))
  ss_nil)
  (ss_cons (s_set (i := 3) sc__law_holds.nd rfl (by first | exact Or.inl rfl | exact Or.inr rfl) (e_call (ok__law_floor x) (hr.mono (by first | decide | omega)) rfl rfl tk (fun ds h => runF_len ds h) (by rfl) x.g__law_floor x.F__law_floor.kp (b__law_floor x) (c_vw (pv 0) (c_vw (pv 1) (c_vw (pv 2) c_nil)))))
  (ss_cons (s_if (t_not (t_tru rfl (p_of (e_call (ok__law_same x 12) (hr.mono (by first | decide | omega)) rfl rfl tk (fun ds h => len__law_same _ ds h) (by rfl) x.g__law_same x.F__law_same.kp (b__law_same x) (c_val (f_of (e_call (ok_floor_of_sum x) (hr.mono (by first | decide | omega)) rfl rfl tk (fun ds h => runF_len ds h) (by rfl) x.g_floor_of_sum x.F_floor_of_sum.kp (b_floor_of_sum x) (c_vw (pv 0) (c_vw (pv 1) (c_vw (pv 2) c_nil))))) (c_vw (pv 3) c_nil)))) (fun _ => by rfl)))
  (ss_one (s_ret e_bl))
  ss_nil)
  (ss_cons (s_set (i := 4) sc__law_holds.nd rfl (by first | exact Or.inl rfl | exact Or.inr rfl) (e_var (pv 3)))
  (ss_cons (s_if (t_cmp op_gtA ok_cmp (p_of (e_call (ok__law_sum_sign x) (hr.mono (by first | decide | omega)) rfl rfl tk (fun ds h => runF_len ds h) (by rfl) x.g__law_sum_sign x.F__law_sum_sign.kp (b__law_sum_sign x) (c_val (f_of (e_call (ok__law_less x) (hr.mono (by first | decide | omega)) rfl rfl tk (fun ds h => runF_len ds h) (by rfl) x.g__law_less x.F__law_less.kp (b__law_less x) (c_vw (pv 0) (c_val (f_of (e_tup (a_cons (f_of (e_var (pv 3))) (a_cons (f_of e_int) a_nil)))) c_nil)))) (c_vw (pv 1) (c_vw (pv 2) c_nil))))) (p_of e_int) (nomark _))
  (ss_one (s_set (i := 4) sc__law_holds.nd rfl (by first | exact Or.inl rfl | exact Or.inr rfl) (e_bin op_addA ok_add (p_var (pv 3)) (p_of e_int))))
  ss_nil)
  (ss_one (s_ret (e_call (ok__law_same x 12) (hr.mono (by first | decide | omega)) rfl rfl tk (fun ds h => len__law_same _ ds h) (by rfl) x.g__law_same x.F__law_same.kp (b__law_same x) (c_val (f_of (e_call (ok_ceiling_of_sum x) (hr.mono (by first | decide | omega)) rfl rfl tk (fun ds h => runF_len ds h) (by rfl) x.g_ceiling_of_sum x.F_ceiling_of_sum.kp (b_ceiling_of_sum x) (c_vw (pv 0) (c_vw (pv 1) (c_vw (pv 2) c_nil))))) (c_vw (pv 4) c_nil))))))))))
theorem b_law (x : Fx P K mg) : Binds K x.d_law ["script"] [] := x.F_law.bindsN fun _ _ _ _ _ _ us hl => match us, hl with | [_], _ => rfl
theorem ok_law (x : Fx P K mg) : FnOk P w K mg base (L2.CX P w) 15 x.a_law x.d_law ["script"] (spF K mg M_law 1) := by
  refine ok_fun (He5.fun_of x.F_law) sc_law (by decide) fun cdv A outer s0 H E hr B F0 => ?_
  have po := passes_of (X := cxOf (L2.CX P w) P w K mg base N_law "law" (defScope s_law) x.a_law cdv A outer s0 H E) rfl
  have tk := takes_of (X := cxOf (L2.CX P w) P w K mg base N_law "law" (defScope s_law) x.a_law cdv A outer s0 H E) rfl rfl rfl rfl
  exact (ss_cons (s_set (i := 1) sc_law.nd rfl (by first | exact Or.inl rfl | exact Or.inr rfl) (e_call (ok__law_numbers x) (hr.mono (by first | decide | omega)) rfl rfl tk (fun ds h => runF_len ds h) (by rfl) x.g__law_numbers x.F__law_numbers.kp (b__law_numbers x) (c_vw (pv 0) (c_val (f_of e_int) (c_val (f_of e_int) c_nil)))))
  (ss_cons (s_set (i := 2) sc_law.nd rfl (by first | exact Or.inl rfl | exact Or.inr rfl) (e_call (ok__law_numbers x) (hr.mono (by first | decide | omega)) rfl rfl tk (fun ds h => runF_len ds h) (by rfl) x.g__law_numbers x.F__law_numbers.kp (b__law_numbers x) (c_vw (pv 0) (c_val (f_of e_int) (c_val (f_of e_int) c_nil)))))
  (ss_cons (s_set (i := 3) sc_law.nd rfl (by first | exact Or.inl rfl | exact Or.inr rfl) (e_call (ok__law_fraction x) (hr.mono (by first | decide | omega)) rfl rfl tk (fun ds h => runF_len ds h) (by rfl) x.g__law_fraction x.F__law_fraction.kp (b__law_fraction x) (c_vw (pv 1) (c_val (f_of e_int) c_nil))))
  (ss_cons (s_set (i := 4) sc_law.nd rfl (by first | exact Or.inl rfl | exact Or.inr rfl) (e_call (ok__law_fraction x) (hr.mono (by first | decide | omega)) rfl rfl tk (fun ds h => runF_len ds h) (by rfl) x.g__law_fraction x.F__law_fraction.kp (b__law_fraction x) (c_vw (pv 1) (c_val (f_of e_int) c_nil))))
  (ss_cons (s_set (i := 5) sc_law.nd rfl (by first | exact Or.inl rfl | exact Or.inr rfl) (e_call (ok__law_fraction x) (hr.mono (by first | decide | omega)) rfl rfl tk (fun ds h => runF_len ds h) (by rfl) x.g__law_fraction x.F__law_fraction.kp (b__law_fraction x) (c_vw (pv 2) (c_val (f_of e_int) c_nil))))
  (ss_cons (s_set (i := 5) sc_law.nd rfl (by first | exact Or.inl rfl | exact Or.inr rfl) (e_tup (a_cons (f_of (e_blt op_abs ok_abs (by rfl) x.m_abs (by decide +kernel) (q_cons (p_of (e_ix rfl (p_var (pv 5)) (p_of e_int) (fun _ _ => rfl))) q_nil))) (a_cons (f_of (e_ix rfl (p_var (pv 5)) (p_of e_int) (fun _ _ => rfl))) a_nil))))
  (ss_cons (s_set (i := 6) sc_law.nd rfl (by first | exact Or.inl rfl | exact Or.inr rfl) (e_call (ok__law_pick x) (hr.mono (by first | decide | omega)) rfl rfl tk (fun ds h => runF_len ds h) (by rfl) x.g__law_pick x.F__law_pick.kp (b__law_pick x) (c_vw (pv 2) (c_val (f_of e_int) (c_val (f_of e_int) c_nil)))))
  (ss_cons (s_if (t_cmp op_ltA ok_cmp (p_var (pv 6)) (p_of e_int) (nomark _))
  (ss_cons (s_set (i := 7) sc_law.nd rfl (by first | exact Or.inl rfl | exact Or.inr rfl) (e_var (pv 5)))
  (ss_cons (s_set (i := 5) sc_law.nd rfl (by first | exact Or.inl rfl | exact Or.inr rfl) (e_call (ok__law_lowest x) (hr.mono (by first | decide | omega)) rfl rfl tk (fun ds h => runF_len ds h) (by rfl) x.g__law_lowest x.F__law_lowest.kp (b__law_lowest x) (c_val (f_of (e_bin op_mulA ok_mul (p_of (e_ix rfl (p_var (pv 7)) (p_of e_int) (fun _ _ => rfl))) (p_of (e_ix rfl (p_var (pv 7)) (p_of e_int) (fun _ _ => rfl))))) (c_val (f_of (e_bin op_mulA ok_mul (p_of (e_ix rfl (p_var (pv 7)) (p_of e_int) (fun _ _ => rfl))) (p_of (e_ix rfl (p_var (pv 7)) (p_of e_int) (fun _ _ => rfl))))) c_nil))))
  (ss_cons (s_set (i := 8) sc_law.nd rfl (by first | exact Or.inl rfl | exact Or.inr rfl) (e_call (ok__law_lowest x) (hr.mono (by first | decide | omega)) rfl rfl tk (fun ds h => runF_len ds h) (by rfl) x.g__law_lowest x.F__law_lowest.kp (b__law_lowest x) (c_val (f_of (e_bin op_mulA ok_mul (p_of (e_ix rfl (p_var (pv 4)) (p_of e_int) (fun _ _ => rfl))) (p_of (e_ix rfl (p_var (pv 7)) (p_of e_int) (fun _ _ => rfl))))) (c_val (f_of (e_bin op_mulA ok_mul (p_of (e_ix rfl (p_var (pv 4)) (p_of e_int) (fun _ _ => rfl))) (p_of (e_ix rfl (p_var (pv 7)) (p_of e_int) (fun _ _ => rfl))))) c_nil))))
  (ss_cons (s_if (t_cmp (op_eqD hr.units) ok_eq (p_var (pv 6)) (p_of e_int) (nomark _))
  (ss_one (s_set (i := 3) sc_law.nd rfl (by first | exact Or.inl rfl | exact Or.inr rfl) (e_tup (a_cons (f_of (e_neg (p_of (e_ix rfl (p_var (pv 8)) (p_of e_int) (fun _ _ => rfl))))) (a_cons (f_of (e_ix rfl (p_var (pv 8)) (p_of e_int) (fun _ _ => rfl))) a_nil)))))
  ss_nil)
  (ss_cons (s_if (t_cmp (op_eqD hr.units) ok_eq (p_var (pv 6)) (p_of e_int) (nomark _))
  (ss_one (s_set (i := 3) sc_law.nd rfl (by first | exact Or.inl rfl | exact Or.inr rfl) (e_call (ok__law_less x) (hr.mono (by first | decide | omega)) rfl rfl tk (fun ds h => runF_len ds h) (by rfl) x.g__law_less x.F__law_less.kp (b__law_less x) (c_val (f_of (e_tup (a_cons (f_of (e_bin op_sub ok_sub (p_of (e_call (ok__law_pick x) (hr.mono (by first | decide | omega)) rfl rfl tk (fun ds h => runF_len ds h) (by rfl) x.g__law_pick x.F__law_pick.kp (b__law_pick x) (c_vw (pv 2) (c_val (f_of e_int) (c_val (f_of e_int) c_nil))))) (p_of e_int))) (a_cons (f_of e_int) a_nil)))) (c_vw (pv 8) c_nil)))))
  ss_nil)
  (ss_cons (s_set (i := 9) sc_law.nd rfl (by first | exact Or.inl rfl | exact Or.inr rfl) (e_call (ok__law_lowest x) (hr.mono (by first | decide | omega)) rfl rfl tk (fun ds h => runF_len ds h) (by rfl) x.g__law_lowest x.F__law_lowest.kp (b__law_lowest x) (c_val (f_of (e_bin op_addA ok_add (p_of (e_bin op_mulA ok_mul (p_of (e_ix rfl (p_var (pv 3)) (p_of e_int) (fun _ _ => rfl))) (p_of (e_ix rfl (p_var (pv 8)) (p_of e_int) (fun _ _ => rfl))))) (p_of (e_bin op_mulA ok_mul (p_of (e_ix rfl (p_var (pv 8)) (p_of e_int) (fun _ _ => rfl))) (p_of (e_ix rfl (p_var (pv 3)) (p_of e_int) (fun _ _ => rfl))))))) (c_val (f_of (e_bin op_mulA ok_mul (p_of (e_ix rfl (p_var (pv 3)) (p_of e_int) (fun _ _ => rfl))) (p_of (e_ix rfl (p_var (pv 8)) (p_of e_int) (fun _ _ => rfl))))) c_nil))))
  (ss_cons (s_if (t_not (t_tru rfl (p_of (e_call (ok__law_compared x) (hr.mono (by first | decide | omega)) rfl rfl tk (fun ds h => runF_len ds h) (by rfl) x.g__law_compared x.F__law_compared.kp (b__law_compared x) (c_vw (pv 3) (c_vw (pv 4) (c_vw (pv 5) (c_vw (pv 9) c_nil)))))) (fun _ => by rfl)))
  (ss_one (s_ret e_bl))
  ss_nil)
  (ss_one (s_if (t_not (t_tru rfl (p_of (e_call (ok__law_same x 12) (hr.mono (by first | decide | omega)) rfl rfl tk (fun ds h => len__law_same _ ds h) (by rfl) x.g__law_same x.F__law_same.kp (b__law_same x) (c_val (f_of (e_call (ok_compare_sum x) (hr.mono (by first | decide | omega)) rfl rfl tk (fun ds h => runF_len ds h) (by rfl) x.g_compare_sum x.F_compare_sum.kp (b_compare_sum x) (c_vw (pv 3) (c_vw (pv 4) (c_vw (pv 5) (c_vw (pv 9) c_nil)))))) (c_val (f_of e_int) c_nil)))) (fun _ => by rfl)))
  (ss_one (s_ret e_bl))
  ss_nil)))))))))
  ss_nil)
  (ss_cons (s_if (t_cmp (op_eqD hr.units) ok_eq (p_var (pv 6)) (p_of e_int) (nomark _))
  (ss_one (s_set (i := 4) sc_law.nd rfl (by first | exact Or.inl rfl | exact Or.inr rfl) (e_tup (a_cons (f_of e_int) (a_cons (f_of e_int) a_nil)))))
  ss_nil)
  (ss_cons (s_if (t_cmp (op_eqD hr.units) ok_eq (p_var (pv 6)) (p_of e_int) (nomark _))
  (ss_one (s_set (i := 5) sc_law.nd rfl (by first | exact Or.inl rfl | exact Or.inr rfl) (e_tup (a_cons (f_of e_int) (a_cons (f_of e_int) a_nil)))))
  ss_nil)
  (ss_cons (s_if (w_or (t_not (t_tru rfl (p_of (e_call (ok__law_holds x) (hr.mono (by first | decide | omega)) rfl rfl tk (fun ds h => runF_len ds h) (by rfl) x.g__law_holds x.F__law_holds.kp (b__law_holds x) (c_vw (pv 3) (c_vw (pv 4) (c_vw (pv 5) c_nil))))) (fun _ => by rfl))) (w_or (t_not (t_tru rfl (p_of (e_call (ok__law_holds x) (hr.mono (by first | decide | omega)) rfl rfl tk (fun ds h => runF_len ds h) (by rfl) x.g__law_holds x.F__law_holds.kp (b__law_holds x) (c_val (f_of (e_tup (a_cons (f_of (e_neg (p_of (e_ix rfl (p_var (pv 3)) (p_of e_int) (fun _ _ => rfl))))) (a_cons (f_of (e_ix rfl (p_var (pv 3)) (p_of e_int) (fun _ _ => rfl))) a_nil)))) (c_vw (pv 4) (c_vw (pv 5) c_nil))))) (fun _ => by rfl))) (w_or1 (t_not (t_tru rfl (p_of (e_call (ok__law_holds x) (hr.mono (by first | decide | omega)) rfl rfl tk (fun ds h => runF_len ds h) (by rfl) x.g__law_holds x.F__law_holds.kp (b__law_holds x) (c_vw (pv 3) (c_val (f_of (e_tup (a_cons (f_of (e_neg (p_of (e_ix rfl (p_var (pv 4)) (p_of e_int) (fun _ _ => rfl))))) (a_cons (f_of (e_ix rfl (p_var (pv 4)) (p_of e_int) (fun _ _ => rfl))) a_nil)))) (c_vw (pv 5) c_nil))))) (fun _ => by rfl)))))).pt
  (ss_one (s_ret e_bl))
  ss_nil)
  (ss_cons (s_set (i := 10) sc_law.nd rfl (by first | exact Or.inl rfl | exact Or.inr rfl) (e_bin op_pow ok_pow (p_of e_int) (p_of e_int)))
  (ss_cons (s_if (t_cmp (op_eqD hr.units) ok_eq (p_of (e_call (ok__law_pick x) (hr.mono (by first | decide | omega)) rfl rfl tk (fun ds h => runF_len ds h) (by rfl) x.g__law_pick x.F__law_pick.kp (b__law_pick x) (c_vw (pv 2) (c_val (f_of e_int) (c_val (f_of e_int) c_nil))))) (p_of e_int) (nomark _))
  (ss_one (s_set (i := 10) sc_law.nd rfl (by first | exact Or.inl rfl | exact Or.inr rfl) (e_bin op_pow ok_pow (p_of e_int) (p_of e_int))))
  ss_nil)
  (ss_cons (s_set (i := 11) sc_law.nd rfl (by first | exact Or.inl rfl | exact Or.inr rfl) (e_call (ok__law_root x) (hr.mono (by first | decide | omega)) rfl rfl tk (fun ds h => runF_len ds h) (by rfl) x.g__law_root x.F__law_root.kp (b__law_root x) (c_val (f_of (e_bin op_fdivX ok_fdivX (p_of (e_bin op_mulA ok_mul (p_of (e_bin op_mulA ok_mul (p_of (e_ix rfl (p_var (pv 5)) (p_of e_int) (fun _ _ => rfl))) (p_var (pv 10)))) (p_var (pv 10)))) (p_of (e_ix rfl (p_var (pv 5)) (p_of e_int) (fun _ _ => rfl))))) c_nil)))
  (ss_cons (s_for (S1 := (L1_law)) po rfl (k_src rfl (f_of (e_lst (a_cons (f_of e_int) (a_cons (f_of e_int) (a_cons (f_of (e_neg (p_of e_int))) a_nil)))))) (pg_name (i := 12) sc_law.nd rfl (by first | exact Or.inl rfl | exact Or.inr rfl)) g_name fun F0 =>
  (ss_cons (s_set (i := 13) sc_law.nd rfl (by first | exact Or.inl rfl | exact Or.inr rfl) (e_call (ok__law_lowest x) (hr.mono (by first | decide | omega)) rfl rfl tk (fun ds h => runF_len ds h) (by rfl) x.g__law_lowest x.F__law_lowest.kp (b__law_lowest x) (c_val (f_of (e_bin op_mulA ok_mul (p_of (e_ix rfl (p_var (pv 4)) (p_of e_int) (fun _ _ => rfl))) (p_of (e_bin op_addA ok_add (p_var (pv 11)) (p_var (pv 12)))))) (c_val (f_of (e_bin op_mulA ok_mul (p_of (e_ix rfl (p_var (pv 4)) (p_of e_int) (fun _ _ => rfl))) (p_var (pv 10)))) c_nil))))
  (ss_cons (s_set (i := 13) sc_law.nd rfl (by first | exact Or.inl rfl | exact Or.inr rfl) (e_call (ok__law_lowest x) (hr.mono (by first | decide | omega)) rfl rfl tk (fun ds h => runF_len ds h) (by rfl) x.g__law_lowest x.F__law_lowest.kp (b__law_lowest x) (c_val (f_of (e_bin op_addA ok_add (p_of (e_bin op_mulA ok_mul (p_of (e_ix rfl (p_var (pv 3)) (p_of e_int) (fun _ _ => rfl))) (p_of (e_ix rfl (p_var (pv 13)) (p_of e_int) (fun _ _ => rfl))))) (p_of (e_bin op_mulA ok_mul (p_of (e_ix rfl (p_var (pv 13)) (p_of e_int) (fun _ _ => rfl))) (p_of (e_ix rfl (p_var (pv 3)) (p_of e_int) (fun _ _ => rfl))))))) (c_val (f_of (e_bin op_mulA ok_mul (p_of (e_ix rfl (p_var (pv 3)) (p_of e_int) (fun _ _ => rfl))) (p_of (e_ix rfl (p_var (pv 13)) (p_of e_int) (fun _ _ => rfl))))) c_nil))))
  (ss_one (s_if (t_not (t_tru rfl (p_of (e_call (ok__law_compared x) (hr.mono (by first | decide | omega)) rfl rfl tk (fun ds h => runF_len ds h) (by rfl) x.g__law_compared x.F__law_compared.kp (b__law_compared x) (c_vw (pv 3) (c_vw (pv 4) (c_vw (pv 5) (c_vw (pv 13) c_nil)))))) (fun _ => by rfl)))
  (ss_one (s_ret e_bl))
  ss_nil)))))
  (ss_cons (s_if (w_or (t_not (t_tru rfl (p_of (e_call (ok__law_holds x) (hr.mono (by first | decide | omega)) rfl rfl tk (fun ds h => runF_len ds h) (by rfl) x.g__law_holds x.F__law_holds.kp (b__law_holds x) (c_val (f_of (e_tup (a_cons (f_of e_int) (a_cons (f_of e_int) a_nil)))) (c_vw (pv 4) (c_vw (pv 5) c_nil))))) (fun _ => by rfl))) (w_or1 (t_not (t_tru rfl (p_of (e_call (ok__law_compared x) (hr.mono (by first | decide | omega)) rfl rfl tk (fun ds h => runF_len ds h) (by rfl) x.g__law_compared x.F__law_compared.kp (b__law_compared x) (c_vw (pv 3) (c_vw (pv 4) (c_vw (pv 5) (c_val (f_of (e_tup (a_cons (f_of e_int) (a_cons (f_of e_int) a_nil)))) c_nil)))))) (fun _ => by rfl))))).pt
  (ss_one (s_ret e_bl))
  ss_nil)
  (ss_one (s_ret (v_and (e_call (ok__law_compared x) (hr.mono (by first | decide | omega)) rfl rfl tk (fun ds h => runF_len ds h) (by rfl) x.g__law_compared x.F__law_compared.kp (b__law_compared x) (c_vw (pv 3) (c_vw (pv 4) (c_vw (pv 5) (c_val (f_of (e_tup (a_cons (f_of (e_call (ok__law_floor x) (hr.mono (by first | decide | omega)) rfl rfl tk (fun ds h => runF_len ds h) (by rfl) x.g__law_floor x.F__law_floor.kp (b__law_floor x) (c_vw (pv 3) (c_vw (pv 4) (c_vw (pv 5) c_nil))))) (a_cons (f_of e_int) a_nil)))) c_nil))))) (v_one (e_call (ok__law_compared x) (hr.mono (by first | decide | omega)) rfl rfl tk (fun ds h => runF_len ds h) (by rfl) x.g__law_compared x.F__law_compared.kp (b__law_compared x) (c_vw (pv 3) (c_vw (pv 4) (c_vw (pv 5) (c_val (f_of (e_call (ok__law_fraction x) (hr.mono (by first | decide | omega)) rfl rfl tk (fun ds h => runF_len ds h) (by rfl) x.g__law_fraction x.F__law_fraction.kp (b__law_fraction x) (c_vw (pv 2) (c_val (f_of e_int) c_nil)))) c_nil)))))))))))))))))))))))))
end
end LawW
namespace LawW
open PySem L2 PM
theorem sl_eq : (sizeLine : Nat) = 16777216 := rfl
/-! ### _law_same of a datum and itself -/
mutual
def goodD : D → Bool
  | .non => true
  | .bl _ => true
  | .int _ => true
  | .str s => okS s
  | .lst ds => decide (ds.length < 2 ^ 60) && goodDs ds
  | .tup ds => decide (ds.length < 2 ^ 60) && goodDs ds
  | _ => false
def goodDs : List D → Bool
  | [] => true
  | d :: ds => goodD d && goodDs ds
end
mutual
def depD : D → Nat
  | .lst ds => depDs ds + 1
  | .tup ds => depDs ds + 1
  | _ => 0
def depDs : List D → Nat
  | [] => 0
  | d :: ds => max (depD d) (depDs ds)
end
theorem good_at : ∀ {ds : List D} {i : Nat} {d : D}, goodDs ds = true → ds[i]? = some d → goodD d = true ∧ depD d ≤ depDs ds
  | [], i, d, _, h => by simp at h
  | x :: ds, 0, d, g, h => by
    have h : x = d := by simpa using h
    subst h
    unfold goodDs at g
    unfold depDs
    exact ⟨(Bool.and_eq_true_iff.mp g).1, Nat.le_max_left _ _⟩
  | x :: ds, i + 1, d, g, h => by
    unfold goodDs at g
    unfold depDs
    obtain ⟨h1, h2⟩ := good_at (Bool.and_eq_true_iff.mp g).2 (by simpa using h)
    exact ⟨h1, Nat.le_trans h2 (Nat.le_max_right _ _)⟩
theorem same_loop {g : FM} {w : D} {ds : List D} (hw : ixD w (.int 0) = ixD w (.int 0)) (hix : ∀ k : Nat, k < ds.length → ixD w (.int (k : Int)) = (ds[k]?).map fun d => ((false, d) : PM.Slot)) (hg : ∀ (k : Nat) d, ds[k]? = some d → g [d, d] = .ok (false, .bl true)) :
    ∀ (m lo : Nat) (x : Option PM.Slot), lo + m ≤ ds.length → ∃ x', forF (tgN 2) (L1__law_same g) ((List.range' lo m).map fun (i : Nat) => D.int (i : Int)) [some (false, w), some (false, w), x] = .nx [some (false, w), some (false, w), x']
  | 0, lo, x, _ => ⟨x, rfl⟩
  | m + 1, lo, x, h => by
    obtain ⟨x', e⟩ := same_loop hw hix hg m (lo + 1) (some (false, .int (lo : Int))) (by omega)
    refine ⟨x', ?_⟩
    rw [List.range'_succ, List.map_cons]
    obtain ⟨d, hd⟩ : ∃ d, ds[lo]? = some d := ⟨_, List.getElem?_eq_getElem (show lo < ds.length by omega)⟩
    have hi := hix lo (by omega)
    rw [hd] at hi
    rw [for_go (ρ1 := [some (false, w), some (false, w), some (false, .int (lo : Int))]) (ρ2 := [some (false, w), some (false, w), some (false, .int (lo : Int))]) rfl ?_, e]
    have hi : ixD w (.int (lo : Int)) = some (false, d) := hi
    have hb : PM.bin ixD (pvar 0) (pvar 2) [some (false, w), some (false, w), some (false, .int (lo : Int))] = .ok (false, d) [some (false, w), some (false, w), some (false, .int (lo : Int))] := by
      unfold PM.bin pvar M.bind M.lift
      simp only [List.getElem?_cons_zero, List.getElem?_cons_succ, hi]
    have hb2 : PM.bin ixD (pvar 1) (pvar 2) [some (false, w), some (false, w), some (false, .int (lo : Int))] = .ok (false, d) [some (false, w), some (false, w), some (false, .int (lo : Int))] := by
      unfold PM.bin pvar M.bind M.lift
      simp only [List.getElem?_cons_zero, List.getElem?_cons_succ, hi]
    unfold L1__law_same ifS tnot tru callE cval cnil pk M.thenS M.bind M.lift skip retS cst PM.ret
    simp only [hb, hb2, hg lo d hd, M.bind, M.lift, List.all_nil, List.isEmpty_nil, Bool.true_or, if_true, truth, Bool.not_true, Bool.false_eq_true, if_false]
theorem intsR_range (n : Nat) : intsR 0 n = (List.range' 0 n).map fun (i : Nat) => D.int (i : Int) := by
  unfold intsR
  rw [List.range_eq_range']
  simp
theorem same_ok (n : Nat) : ∀ (d : D), goodD d = true → depD d < n → M__law_same n [d, d] = .ok (false, .bl true) := by
  induction n with
  | zero => exact fun d _ h => absurd h (Nat.not_lt_zero _)
  | succ n same_ok =>
    intro d g h
    refine run_rt rfl ?_
    show S__law_same (M__law_same n) [some (false, d), some (false, d), none] = _
    unfold S__law_same
    have seq : ∀ (w : D) (ds : List D), goodDs ds = true → depDs ds < n → ds.length < 2 ^ 60 → (∀ k : Nat, k < ds.length → ixD w (.int (k : Int)) = (ds[k]?).map fun d => ((false, d) : PM.Slot)) → lenD [w] = some (false, .int ds.length) →
        seqS (T8__law_same (M__law_same n)) (seqS (T9__law_same (M__law_same n)) (T10__law_same (M__law_same n))) [some (false, w), some (false, w), none] = .rt (false, .bl true) := fun w ds g h hl hix hlen => by
      rw [seq_nx (ρ1 := [some (false, w), some (false, w), none])]
      · obtain ⟨x', e⟩ := same_loop (g := M__law_same n) rfl hix (fun k d hd => same_ok d (good_at g hd).1 (Nat.lt_of_le_of_lt (good_at g hd).2 h)) ds.length 0 none (by omega)
        rw [← intsR_range] at e
        rw [seq_nx (ρ1 := [some (false, w), some (false, w), x'])]
        · rfl
        · have key : ∀ L : Int, L = (ds.length : Int) → lenD [w] = some (false, .int L) → rng1 (acons (pk (blt lenD (acons (pvar 1) anil))) anil) [some (false, w), some (false, w), none] = .ok (intsR 0 L.toNat) [some (false, w), some (false, w), none] := fun L hL hlen => by
            have h62 : -(2 ^ 62) ≤ L ∧ L < 2 ^ 62 := by omega
            unfold rng1 acons pk blt anil pvar M.bind M.lift
            simp only [M.bind, M.lift, List.getElem?_cons_zero, List.getElem?_cons_succ, hlen, h62, and_self, if_true]
          unfold T9__law_same
          rw [for_nx (ds := intsR 0 ds.length) (ρ1 := [some (false, w), some (false, w), none]) (key _ rfl hlen), e]
      · unfold T8__law_same ifS asB PM.bin pk blt acons anil pvar M.thenS M.bind M.lift
        simp only [M.bind, M.lift, List.getElem?_cons_zero, List.getElem?_cons_succ, hlen, neD, eqv_int, decide_true, Option.map_some, Bool.not_true, Bool.false_eq_true, if_false]
        rfl
    cases d with
    | non => rfl
    | bl b => cases b <;> rfl
    | int i =>
      rw [seq_nx (S1 := T1__law_same (M__law_same n)) (ρ1 := [some (false, .int i), some (false, .int i), none]) rfl, seq_nx (S1 := T2__law_same (M__law_same n)) (ρ1 := [some (false, .int i), some (false, .int i), none]) rfl, seq_nx (S1 := T3__law_same (M__law_same n)) (ρ1 := [some (false, .int i), some (false, .int i), none]) rfl]
      have : T4__law_same (M__law_same n) [some (false, .int i), some (false, .int i), none] = .rt (false, .bl true) := by
        simp only [T4__law_same, PM.tgT, PM.tgs, PM.callE, PM.runF, PM.initE, PM.seqS, PM.asgS, PM.tgS, PM.parS, PM.appS, PM.augS, PM.dropS, PM.retS, PM.retN, PM.retV, PM.ifS, PM.forS, PM.M.thenS, PM.M.bind, PM.M.lift, PM.ret, PM.cst, PM.var, PM.pvar, PM.pk, PM.bin, PM.asB, PM.truth, PM.tru, PM.tand, PM.tor, PM.tnot, PM.vand, PM.vor, PM.vnot, PM.iff, PM.sli, PM.ono, PM.oin, PM.acons, PM.anil, PM.cnil, PM.cval, PM.cvw, PM.lstE, PM.tupE, PM.blt, PM.isi, PM.una, PM.smE, PM.src, PM.rng1, PM.rng2, PM.skip, PM.brkS, PM.cntS, PM.tgN, PM.itemsD, PM.tyD, PM.Ty.sub, PM.addD, PM.addIA, PM.subD, PM.mulD, PM.mulID, PM.fdivD, PM.modD, PM.powD, PM.ltD, PM.leD, PM.gtD, PM.geD, PM.cmpD, PM.eqD, PM.neD, PM.ixD, PM.sliceD, PM.lenD, PM.intD, PM.strD, PM.listD, PM.tupD, PM.joinD, PM.rjustD, PM.negD, List.length_cons, List.length_nil, List.getElem?_cons_zero, List.getElem?_cons_succ, List.set_cons_zero, List.set_cons_succ, List.map_cons, List.map_nil, List.cons_append, List.nil_append, List.append_nil, List.replicate, List.length_map, List.length_append, if_true, if_false, ite_true, ite_false, reduceIte, Bool.false_eq_true, decide_eq_true_eq, Option.map_some, Option.map_none, Option.bind_some, Option.bind_none, Option.some.injEq, Option.join, List.isEmpty_cons, List.isEmpty_nil, List.all_cons, List.all_nil, PM.owned, PM.noLS, PM.noL, PM.noLs, Bool.or_true, Bool.true_or, Bool.or_false, Bool.false_or, Bool.and_true, Bool.true_and, Bool.and_false, Bool.false_and, Bool.not_true, Bool.not_false, List.isEmpty_map, PM.setS, PM.augIxS, PM.isD, PM.isNonD, PM.isBlD, PM.isNotD, PM.sumD, PM.allD, PM.anyD, PM.absD, PM.gcdD, PM.bitsD, PM.maxD, PM.minD, reduceCtorEq, decide_true, decide_false, eq_self, Nat.zero_add, Nat.reduceAdd, Nat.reduceSub, Nat.reduceLT, Nat.reduceEqDiff, eqv_int]
      unfold seqS
      rw [this]
    | str s =>
      have hs : okS s = true := g
      rw [seq_nx (S1 := T1__law_same (M__law_same n)) (ρ1 := [some (false, .str s), some (false, .str s), none]) rfl, seq_nx (S1 := T2__law_same (M__law_same n)) (ρ1 := [some (false, .str s), some (false, .str s), none]) rfl, seq_nx (S1 := T3__law_same (M__law_same n)) (ρ1 := [some (false, .str s), some (false, .str s), none]) rfl, seq_nx (S1 := T4__law_same (M__law_same n)) (ρ1 := [some (false, .str s), some (false, .str s), none]) rfl]
      have : T5__law_same (M__law_same n) [some (false, .str s), some (false, .str s), none] = .rt (false, .bl true) := by
        simp only [T5__law_same, PM.tgT, PM.tgs, PM.callE, PM.runF, PM.initE, PM.seqS, PM.asgS, PM.tgS, PM.parS, PM.appS, PM.augS, PM.dropS, PM.retS, PM.retN, PM.retV, PM.ifS, PM.forS, PM.M.thenS, PM.M.bind, PM.M.lift, PM.ret, PM.cst, PM.var, PM.pvar, PM.pk, PM.bin, PM.asB, PM.truth, PM.tru, PM.tand, PM.tor, PM.tnot, PM.vand, PM.vor, PM.vnot, PM.iff, PM.sli, PM.ono, PM.oin, PM.acons, PM.anil, PM.cnil, PM.cval, PM.cvw, PM.lstE, PM.tupE, PM.blt, PM.isi, PM.una, PM.smE, PM.src, PM.rng1, PM.rng2, PM.skip, PM.brkS, PM.cntS, PM.tgN, PM.itemsD, PM.tyD, PM.Ty.sub, PM.addD, PM.addIA, PM.subD, PM.mulD, PM.mulID, PM.fdivD, PM.modD, PM.powD, PM.ltD, PM.leD, PM.gtD, PM.geD, PM.cmpD, PM.eqD, PM.neD, PM.ixD, PM.sliceD, PM.lenD, PM.intD, PM.strD, PM.listD, PM.tupD, PM.joinD, PM.rjustD, PM.negD, List.length_cons, List.length_nil, List.getElem?_cons_zero, List.getElem?_cons_succ, List.set_cons_zero, List.set_cons_succ, List.map_cons, List.map_nil, List.cons_append, List.nil_append, List.append_nil, List.replicate, List.length_map, List.length_append, if_true, if_false, ite_true, ite_false, reduceIte, Bool.false_eq_true, decide_eq_true_eq, Option.map_some, Option.map_none, Option.bind_some, Option.bind_none, Option.some.injEq, Option.join, List.isEmpty_cons, List.isEmpty_nil, List.all_cons, List.all_nil, PM.owned, PM.noLS, PM.noL, PM.noLs, Bool.or_true, Bool.true_or, Bool.or_false, Bool.false_or, Bool.and_true, Bool.true_and, Bool.and_false, Bool.false_and, Bool.not_true, Bool.not_false, List.isEmpty_map, PM.setS, PM.augIxS, PM.isD, PM.isNonD, PM.isBlD, PM.isNotD, PM.sumD, PM.allD, PM.anyD, PM.absD, PM.gcdD, PM.bitsD, PM.maxD, PM.minD, reduceCtorEq, decide_true, decide_false, eq_self, Nat.zero_add, Nat.reduceAdd, Nat.reduceSub, Nat.reduceLT, Nat.reduceEqDiff, eqv_str hs hs]
      unfold seqS
      rw [this]
    | lst ds =>
      have g : (decide (ds.length < 2 ^ 60) && goodDs ds) = true := by unfold goodD at g; exact g
      obtain ⟨g1, g2⟩ := Bool.and_eq_true_iff.mp g
      have h : depDs ds + 1 < n + 1 := by unfold depD at h; exact h
      rw [seq_nx (S1 := T1__law_same (M__law_same n)) (ρ1 := [some (false, .lst ds), some (false, .lst ds), none]) rfl, seq_nx (S1 := T2__law_same (M__law_same n)) (ρ1 := [some (false, .lst ds), some (false, .lst ds), none]) rfl, seq_nx (S1 := T3__law_same (M__law_same n)) (ρ1 := [some (false, .lst ds), some (false, .lst ds), none]) rfl, seq_nx (S1 := T4__law_same (M__law_same n)) (ρ1 := [some (false, .lst ds), some (false, .lst ds), none]) rfl,
        seq_nx (S1 := T5__law_same (M__law_same n)) (ρ1 := [some (false, .lst ds), some (false, .lst ds), none]) rfl, seq_nx (S1 := T6__law_same (M__law_same n)) (ρ1 := [some (false, .lst ds), some (false, .lst ds), none]) rfl, seq_nx (S1 := T7__law_same (M__law_same n)) (ρ1 := [some (false, .lst ds), some (false, .lst ds), none]) rfl]
      exact seq (.lst ds) ds g2 (by omega) (of_decide_eq_true g1) (fun k hk => by show Option.map _ (atI ds (k : Int)) = _; rw [atI_nat hk]) rfl
    | tup ds =>
      have g : (decide (ds.length < 2 ^ 60) && goodDs ds) = true := by unfold goodD at g; exact g
      obtain ⟨g1, g2⟩ := Bool.and_eq_true_iff.mp g
      have h : depDs ds + 1 < n + 1 := by unfold depD at h; exact h
      rw [seq_nx (S1 := T1__law_same (M__law_same n)) (ρ1 := [some (false, .tup ds), some (false, .tup ds), none]) rfl, seq_nx (S1 := T2__law_same (M__law_same n)) (ρ1 := [some (false, .tup ds), some (false, .tup ds), none]) rfl, seq_nx (S1 := T3__law_same (M__law_same n)) (ρ1 := [some (false, .tup ds), some (false, .tup ds), none]) rfl, seq_nx (S1 := T4__law_same (M__law_same n)) (ρ1 := [some (false, .tup ds), some (false, .tup ds), none]) rfl,
        seq_nx (S1 := T5__law_same (M__law_same n)) (ρ1 := [some (false, .tup ds), some (false, .tup ds), none]) rfl, seq_nx (S1 := T6__law_same (M__law_same n)) (ρ1 := [some (false, .tup ds), some (false, .tup ds), none]) rfl, seq_nx (S1 := T7__law_same (M__law_same n)) (ρ1 := [some (false, .tup ds), some (false, .tup ds), none]) rfl]
      exact seq (.tup ds) ds g2 (by omega) (of_decide_eq_true g1) (fun k hk => by show Option.map _ (atI ds (k : Int)) = _; rw [atI_nat hk]) rfl
    | dic _ _ => unfold goodD at g; cases g
    | raw _ => unfold goodD at g; cases g
/-! ### ratios -/
def nb (n : Nat) (x : Int) : Prop := x.natAbs < 2 ^ n
theorem nb_log {n : Nat} {x : Int} (h : nb n x) : x.natAbs.log2 ≤ n := by
  unfold nb at h
  by_cases z : x.natAbs = 0
  · rw [z]; exact Nat.zero_le _
  · exact Nat.le_of_lt ((Nat.log2_lt z).mpr h)
theorem nb_up {n m : Nat} {x : Int} (h : nb n x) (e : n ≤ m) : nb m x := Nat.lt_of_lt_of_le h (Nat.pow_le_pow_right (by decide) e)
theorem nb_mul {n m : Nat} {x y : Int} (h : nb n x) (k : nb m y) : nb (n + m) (x * y) := by
  unfold nb at *
  rw [Int.natAbs_mul, Nat.pow_add]
  exact Nat.mul_lt_mul_of_lt_of_le h (Nat.le_of_lt k) (Nat.two_pow_pos m)
theorem nb_add {n : Nat} {x y : Int} (h : nb n x) (k : nb n y) : nb (n + 1) (x + y) := by
  unfold nb at *
  rw [Nat.pow_succ]
  omega
theorem nb_neg {n : Nat} {x : Int} (h : nb n x) : nb n (-x) := by
  unfold nb at *
  omega
theorem nb_sub {n : Nat} {x y : Int} (h : nb n x) (k : nb n y) : nb (n + 1) (x - y) := by
  unfold nb at *
  rw [Nat.pow_succ]
  omega
theorem mul_nb {n m : Nat} {x y : Int} (h : nb n x) (k : nb m y) (z : n + m < 1000000) : mulOk x y = true := by
  unfold mulOk
  rw [decide_eq_true (show x.natAbs.log2 + y.natAbs.log2 < 1000000 by have := nb_log h; have := nb_log k; omega)]
  rfl
abbrev Q := Int × Int
def T (r : Q) : D := .tup [.int r.1, .int r.2]
/-- in lowest terms -/
def gg (p q : Int) : Int := ((Nat.gcd p.natAbs q.natAbs : Nat) : Int)
def lw (p q : Int) : Q := (p * q.sign / gg p q, q.natAbs / gg p q)
theorem gg_pos {p q : Int} (h : q ≠ 0) : 0 < gg p q := by
  unfold gg
  have : 0 < Nat.gcd p.natAbs q.natAbs := Nat.gcd_pos_of_pos_right _ (by omega)
  omega
theorem gg_l (p q : Int) : gg p q ∣ p := by
  unfold gg
  exact Int.natAbs_dvd_natAbs.mp (by rw [Int.natAbs_natCast]; exact Nat.gcd_dvd_left _ _)
theorem gg_r (p q : Int) : gg p q ∣ q := by
  unfold gg
  exact Int.natAbs_dvd_natAbs.mp (by rw [Int.natAbs_natCast]; exact Nat.gcd_dvd_right _ _)
theorem gg_le {p q : Int} (h : q ≠ 0) : gg p q ≤ q.natAbs := by
  unfold gg
  have := Nat.le_of_dvd (show 0 < q.natAbs by omega) (Nat.gcd_dvd_right p.natAbs q.natAbs)
  omega
theorem gg_nb {p q : Int} {n : Nat} (h : q ≠ 0) (b : nb n q) : nb n (gg p q) := by
  have h1 := gg_le (p := p) h
  have h2 := gg_pos (p := p) h
  unfold nb at *
  omega
theorem lw_eq {p q : Int} (h : q ≠ 0) : gg p q * (lw p q).1 = p * q.sign ∧ gg p q * (lw p q).2 = q.natAbs := by
  unfold lw
  constructor
  · exact Int.mul_ediv_cancel' (Int.dvd_mul_of_dvd_left (gg_l p q))
  · exact Int.mul_ediv_cancel' (Int.dvd_natAbs.mpr (gg_r p q))
theorem pos_mul {g x : Int} (h : 0 < g) : 0 < g * x ↔ 0 < x := by
  constructor
  · intro k
    rcases Int.lt_or_le 0 x with z | z
    · exact z
    · have := Int.mul_le_mul_of_nonneg_left z (Int.le_of_lt h)
      rw [Int.mul_zero] at this
      omega
  · exact fun k => Int.mul_pos h k
theorem neg_mul' {g x : Int} (h : 0 < g) : g * x < 0 ↔ x < 0 := by
  have := pos_mul (x := -x) h
  rw [Int.mul_neg] at this
  omega
theorem lw_pos {p q : Int} (h : q ≠ 0) : 0 < (lw p q).2 := by
  have e := (lw_eq (p := p) h).2
  exact (pos_mul (gg_pos (p := p) h)).mp (by rw [e]; omega)
theorem mul_le_abs {g x : Int} (h : 0 < g) : x.natAbs ≤ (g * x).natAbs := by
  rw [Int.natAbs_mul]
  exact Nat.le_mul_of_pos_left _ (by omega)
theorem sgn_abs {p q : Int} (h : q ≠ 0) : (p * q.sign).natAbs = p.natAbs := by
  rw [Int.natAbs_mul, Int.natAbs_sign_of_ne_zero h, Nat.mul_one]
theorem lw_nb {p q : Int} {n m : Nat} (h : q ≠ 0) (a : nb n p) (b : nb m q) : nb n (lw p q).1 ∧ nb m (lw p q).2 := by
  obtain ⟨e1, e2⟩ := lw_eq (p := p) h
  have g := gg_pos (p := p) h
  have h1 := mul_le_abs (x := (lw p q).1) g
  have h2 := mul_le_abs (x := (lw p q).2) g
  rw [e1, sgn_abs h] at h1
  rw [e2] at h2
  unfold nb at *
  omega
theorem lw_cop {p q : Int} (h : q ≠ 0) : Nat.gcd (lw p q).1.natAbs (lw p q).2.natAbs = 1 := by
  obtain ⟨e1, e2⟩ := lw_eq (p := p) h
  have g := gg_pos (p := p) h
  have k : Nat.gcd p.natAbs q.natAbs * Nat.gcd (lw p q).1.natAbs (lw p q).2.natAbs = Nat.gcd p.natAbs q.natAbs := by
    rw [← Nat.gcd_mul_left]
    have a1 : Nat.gcd p.natAbs q.natAbs * (lw p q).1.natAbs = p.natAbs := by
      have := congrArg Int.natAbs e1
      rw [Int.natAbs_mul, sgn_abs h] at this
      exact this
    have a2 : Nat.gcd p.natAbs q.natAbs * (lw p q).2.natAbs = q.natAbs := by
      have := congrArg Int.natAbs e2
      rw [Int.natAbs_mul] at this
      simpa [gg] using this
    rw [a1, a2]
  have gp : 0 < Nat.gcd p.natAbs q.natAbs := Nat.gcd_pos_of_pos_right _ (by omega)
  exact Nat.eq_of_mul_eq_mul_left gp (by rw [k, Nat.mul_one])
theorem fdiv_neg_exact {p g : Int} (h : g ∣ p) (hg : 0 < g) : p.fdiv (-g) = -(p / g) := by
  obtain ⟨k, rfl⟩ := h
  rw [show g * k = (-g) * (-k) by rw [Int.neg_mul_neg], Int.mul_fdiv_cancel_left _ (by omega), show (-g) * (-k) = g * k by rw [Int.neg_mul_neg], Int.mul_ediv_cancel_left _ (by omega)]
theorem ratio_ok {p q : Int} (h : q ≠ 0) (b : nb 8000 q) : M_ratio [.int p, .int q] = .ok (false, T (lw p q)) := by
  have g := gg_pos (p := p) h
  have gl := gg_l p q
  have gr := gg_r p q
  have gb := nb_log (gg_nb (p := p) h b)
  have hq : decide (q = 0) = false := decide_eq_false h
  have hg : ((Nat.gcd p.natAbs q.natAbs : Nat) : Int) = gg p q := rfl
  have hlog : (gg p q).natAbs.log2 < 9000 := by omega
  unfold M_ratio S_ratio
  by_cases hn : q < 0
  · have hlog2 : (-gg p q).natAbs.log2 < 9000 := by rw [Int.natAbs_neg]; exact hlog
    have n1 : ¬ (0 < -gg p q) := by omega
    have n2 : -gg p q < 0 := by omega
    have e1 : p.fdiv (-gg p q) = (lw p q).1 := by
      rw [fdiv_neg_exact gl g]
      unfold lw
      rw [Int.sign_eq_neg_one_of_neg hn, Int.mul_neg_one, Int.neg_ediv_of_dvd gl]
    have e2 : q.fdiv (-gg p q) = (lw p q).2 := by
      rw [fdiv_neg_exact gr g]
      unfold lw
      rw [Int.ofNat_natAbs_of_nonpos (Int.le_of_lt hn), Int.neg_ediv_of_dvd gr]
    simp only [PM.tgT, PM.tgs, PM.callE, PM.runF, PM.initE, PM.seqS, PM.asgS, PM.tgS, PM.parS, PM.appS, PM.augS, PM.dropS, PM.retS, PM.retN, PM.retV, PM.ifS, PM.forS, PM.M.thenS, PM.M.bind, PM.M.lift, PM.ret, PM.cst, PM.var, PM.pvar, PM.pk, PM.bin, PM.asB, PM.truth, PM.tru, PM.tand, PM.tor, PM.tnot, PM.vand, PM.vor, PM.vnot, PM.iff, PM.sli, PM.ono, PM.oin, PM.acons, PM.anil, PM.cnil, PM.cval, PM.cvw, PM.lstE, PM.tupE, PM.blt, PM.isi, PM.una, PM.smE, PM.src, PM.rng1, PM.rng2, PM.skip, PM.brkS, PM.cntS, PM.tgN, PM.itemsD, PM.tyD, PM.Ty.sub, PM.addD, PM.addIA, PM.subD, PM.mulD, PM.mulID, PM.fdivD, PM.modD, PM.powD, PM.ltD, PM.leD, PM.gtD, PM.geD, PM.cmpD, PM.eqD, PM.neD, PM.ixD, PM.sliceD, PM.lenD, PM.intD, PM.strD, PM.listD, PM.tupD, PM.joinD, PM.rjustD, PM.negD, List.length_cons, List.length_nil, List.getElem?_cons_zero, List.getElem?_cons_succ, List.set_cons_zero, List.set_cons_succ, List.map_cons, List.map_nil, List.cons_append, List.nil_append, List.append_nil, List.replicate, List.length_map, List.length_append, if_true, if_false, ite_true, ite_false, reduceIte, Bool.false_eq_true, decide_eq_true_eq, Option.map_some, Option.map_none, Option.bind_some, Option.bind_none, Option.some.injEq, Option.join, List.isEmpty_cons, List.isEmpty_nil, List.all_cons, List.all_nil, PM.owned, PM.noLS, PM.noL, PM.noLs, Bool.or_true, Bool.true_or, Bool.or_false, Bool.false_or, Bool.and_true, Bool.true_and, Bool.and_false, Bool.false_and, Bool.not_true, Bool.not_false, List.isEmpty_map, PM.setS, PM.augIxS, PM.isD, PM.isNonD, PM.isBlD, PM.isNotD, PM.sumD, PM.allD, PM.anyD, PM.absD, PM.gcdD, PM.bitsD, PM.maxD, PM.minD, reduceCtorEq, decide_true, decide_false, eq_self, Nat.zero_add, Nat.reduceAdd, Nat.reduceSub, Nat.reduceLT, Nat.reduceEqDiff, eqv_int, hq, hg, decide_eq_true hn, n1, n2, hlog2, false_and, true_and, e1, e2, show 2 ≤ sizeLine by decide]
    rfl
  · have hp : 0 < q := by omega
    have e1 : p / gg p q = (lw p q).1 := by
      unfold lw
      rw [Int.sign_eq_one_of_pos hp, Int.mul_one]
    have e2 : q / gg p q = (lw p q).2 := by
      unfold lw
      rw [Int.natAbs_of_nonneg (Int.le_of_lt hp)]
    simp only [PM.tgT, PM.tgs, PM.callE, PM.runF, PM.initE, PM.seqS, PM.asgS, PM.tgS, PM.parS, PM.appS, PM.augS, PM.dropS, PM.retS, PM.retN, PM.retV, PM.ifS, PM.forS, PM.M.thenS, PM.M.bind, PM.M.lift, PM.ret, PM.cst, PM.var, PM.pvar, PM.pk, PM.bin, PM.asB, PM.truth, PM.tru, PM.tand, PM.tor, PM.tnot, PM.vand, PM.vor, PM.vnot, PM.iff, PM.sli, PM.ono, PM.oin, PM.acons, PM.anil, PM.cnil, PM.cval, PM.cvw, PM.lstE, PM.tupE, PM.blt, PM.isi, PM.una, PM.smE, PM.src, PM.rng1, PM.rng2, PM.skip, PM.brkS, PM.cntS, PM.tgN, PM.itemsD, PM.tyD, PM.Ty.sub, PM.addD, PM.addIA, PM.subD, PM.mulD, PM.mulID, PM.fdivD, PM.modD, PM.powD, PM.ltD, PM.leD, PM.gtD, PM.geD, PM.cmpD, PM.eqD, PM.neD, PM.ixD, PM.sliceD, PM.lenD, PM.intD, PM.strD, PM.listD, PM.tupD, PM.joinD, PM.rjustD, PM.negD, List.length_cons, List.length_nil, List.getElem?_cons_zero, List.getElem?_cons_succ, List.set_cons_zero, List.set_cons_succ, List.map_cons, List.map_nil, List.cons_append, List.nil_append, List.append_nil, List.replicate, List.length_map, List.length_append, if_true, if_false, ite_true, ite_false, reduceIte, Bool.false_eq_true, decide_eq_true_eq, Option.map_some, Option.map_none, Option.bind_some, Option.bind_none, Option.some.injEq, Option.join, List.isEmpty_cons, List.isEmpty_nil, List.all_cons, List.all_nil, PM.owned, PM.noLS, PM.noL, PM.noLs, Bool.or_true, Bool.true_or, Bool.or_false, Bool.false_or, Bool.and_true, Bool.true_and, Bool.and_false, Bool.false_and, Bool.not_true, Bool.not_false, List.isEmpty_map, PM.setS, PM.augIxS, PM.isD, PM.isNonD, PM.isBlD, PM.isNotD, PM.sumD, PM.allD, PM.anyD, PM.absD, PM.gcdD, PM.bitsD, PM.maxD, PM.minD, reduceCtorEq, decide_true, decide_false, eq_self, Nat.zero_add, Nat.reduceAdd, Nat.reduceSub, Nat.reduceLT, Nat.reduceEqDiff, eqv_int, hq, hg, decide_eq_false hn, g, hlog, and_self, e1, e2, show 2 ≤ sizeLine by decide]
    rfl
theorem ratio_0 (p : Int) : M_ratio [.int p, .int 0] = .exc ⟨"BadNumber", []⟩ := rfl
theorem at0 {α : Type} (a b : α) : atI [a, b] (0 : Int) = some a := rfl
theorem at1 {α : Type} (a b : α) : atI [a, b] (1 : Int) = some b := rfl
/-- a fraction of bounded parts -/
structure Fr (n : Nat) (r : Q) : Prop where
  pos : 0 < r.2
  a : nb n r.1
  b : nb n r.2
theorem Fr.up {n m : Nat} {r : Q} (h : Fr n r) (e : n ≤ m) : Fr m r := ⟨h.pos, nb_up h.a e, nb_up h.b e⟩
theorem Fr.ne {n : Nat} {r : Q} (h : Fr n r) : r.2 ≠ 0 := by have := h.pos; omega
theorem Fr.lw {n : Nat} {p q : Int} (h : q ≠ 0) (a : nb n p) (b : nb n q) : Fr n (LawW.lw p q) := ⟨lw_pos h, (lw_nb h a b).1, (lw_nb h a b).2⟩
theorem mul_ne {a b : Int} (h : a ≠ 0) (k : b ≠ 0) : a * b ≠ 0 := Int.mul_ne_zero h k
/-- the parts of r + s, r - s, r * s -/
theorem pl_nb {n : Nat} {r s : Q} (h : Fr n r) (k : Fr n s) : nb (n + n + 1) (r.1 * s.2 + s.1 * r.2) ∧ nb (n + n + 1) (r.2 * s.2) := ⟨nb_add (nb_mul h.a k.b) (nb_mul k.a h.b), nb_up (nb_mul h.b k.b) (by omega)⟩
theorem plus_ok {n : Nat} {r s : Q} (h : Fr n r) (k : Fr n s) (z : n ≤ 3000) : M_plus [T r, T s] = .ok (false, T (lw (r.1 * s.2 + s.1 * r.2) (r.2 * s.2))) := by
  have e := ratio_ok (p := r.1 * s.2 + s.1 * r.2) (mul_ne h.ne k.ne) (nb_up (pl_nb h k).2 (by omega))
  unfold M_plus S_plus T
  simp only [PM.tgT, PM.tgs, PM.callE, PM.runF, PM.initE, PM.seqS, PM.asgS, PM.tgS, PM.parS, PM.appS, PM.augS, PM.dropS, PM.retS, PM.retN, PM.retV, PM.ifS, PM.forS, PM.M.thenS, PM.M.bind, PM.M.lift, PM.ret, PM.cst, PM.var, PM.pvar, PM.pk, PM.bin, PM.asB, PM.truth, PM.tru, PM.tand, PM.tor, PM.tnot, PM.vand, PM.vor, PM.vnot, PM.iff, PM.sli, PM.ono, PM.oin, PM.acons, PM.anil, PM.cnil, PM.cval, PM.cvw, PM.lstE, PM.tupE, PM.blt, PM.isi, PM.una, PM.smE, PM.src, PM.rng1, PM.rng2, PM.skip, PM.brkS, PM.cntS, PM.tgN, PM.itemsD, PM.tyD, PM.Ty.sub, PM.addD, PM.addIA, PM.subD, PM.mulD, PM.mulID, PM.fdivD, PM.modD, PM.powD, PM.ltD, PM.leD, PM.gtD, PM.geD, PM.cmpD, PM.eqD, PM.neD, PM.ixD, PM.sliceD, PM.lenD, PM.intD, PM.strD, PM.listD, PM.tupD, PM.joinD, PM.rjustD, PM.negD, List.length_cons, List.length_nil, List.getElem?_cons_zero, List.getElem?_cons_succ, List.set_cons_zero, List.set_cons_succ, List.map_cons, List.map_nil, List.cons_append, List.nil_append, List.append_nil, List.replicate, List.length_map, List.length_append, if_true, if_false, ite_true, ite_false, reduceIte, Bool.false_eq_true, decide_eq_true_eq, Option.map_some, Option.map_none, Option.bind_some, Option.bind_none, Option.some.injEq, Option.join, List.isEmpty_cons, List.isEmpty_nil, List.all_cons, List.all_nil, PM.owned, PM.noLS, PM.noL, PM.noLs, Bool.or_true, Bool.true_or, Bool.or_false, Bool.false_or, Bool.and_true, Bool.true_and, Bool.and_false, Bool.false_and, Bool.not_true, Bool.not_false, List.isEmpty_map, PM.setS, PM.augIxS, PM.isD, PM.isNonD, PM.isBlD, PM.isNotD, PM.sumD, PM.allD, PM.anyD, PM.absD, PM.gcdD, PM.bitsD, PM.maxD, PM.minD, reduceCtorEq, decide_true, decide_false, eq_self, Nat.zero_add, Nat.reduceAdd, Nat.reduceSub, Nat.reduceLT, Nat.reduceEqDiff, at0, at1, mul_nb h.a k.b (show n + n < 1000000 by omega), mul_nb k.a h.b (show n + n < 1000000 by omega), mul_nb h.b k.b (show n + n < 1000000 by omega), e]
  rfl
theorem negative_ok (r : Q) : M_negative [T r] = .ok (false, T (-r.1, r.2)) := rfl
theorem Fr.neg {n : Nat} {r : Q} (h : Fr n r) : Fr n (-r.1, r.2) := ⟨h.pos, nb_neg h.a, h.b⟩
theorem minus_ok {n : Nat} {r s : Q} (h : Fr n r) (k : Fr n s) (z : n ≤ 3000) : M_minus [T r, T s] = .ok (false, T (lw (r.1 * s.2 - s.1 * r.2) (r.2 * s.2))) := by
  have e := plus_ok h k.neg z
  have e2 : r.1 * s.2 + -s.1 * r.2 = r.1 * s.2 - s.1 * r.2 := by grind
  dsimp only at e
  rw [e2] at e
  unfold M_minus S_minus
  simp only [PM.tgT, PM.tgs, PM.callE, PM.runF, PM.initE, PM.seqS, PM.asgS, PM.tgS, PM.parS, PM.appS, PM.augS, PM.dropS, PM.retS, PM.retN, PM.retV, PM.ifS, PM.forS, PM.M.thenS, PM.M.bind, PM.M.lift, PM.ret, PM.cst, PM.var, PM.pvar, PM.pk, PM.bin, PM.asB, PM.truth, PM.tru, PM.tand, PM.tor, PM.tnot, PM.vand, PM.vor, PM.vnot, PM.iff, PM.sli, PM.ono, PM.oin, PM.acons, PM.anil, PM.cnil, PM.cval, PM.cvw, PM.lstE, PM.tupE, PM.blt, PM.isi, PM.una, PM.smE, PM.src, PM.rng1, PM.rng2, PM.skip, PM.brkS, PM.cntS, PM.tgN, PM.itemsD, PM.tyD, PM.Ty.sub, PM.addD, PM.addIA, PM.subD, PM.mulD, PM.mulID, PM.fdivD, PM.modD, PM.powD, PM.ltD, PM.leD, PM.gtD, PM.geD, PM.cmpD, PM.eqD, PM.neD, PM.ixD, PM.sliceD, PM.lenD, PM.intD, PM.strD, PM.listD, PM.tupD, PM.joinD, PM.rjustD, PM.negD, List.length_cons, List.length_nil, List.getElem?_cons_zero, List.getElem?_cons_succ, List.set_cons_zero, List.set_cons_succ, List.map_cons, List.map_nil, List.cons_append, List.nil_append, List.append_nil, List.replicate, List.length_map, List.length_append, if_true, if_false, ite_true, ite_false, reduceIte, Bool.false_eq_true, decide_eq_true_eq, Option.map_some, Option.map_none, Option.bind_some, Option.bind_none, Option.some.injEq, Option.join, List.isEmpty_cons, List.isEmpty_nil, List.all_cons, List.all_nil, PM.owned, PM.noLS, PM.noL, PM.noLs, Bool.or_true, Bool.true_or, Bool.or_false, Bool.false_or, Bool.and_true, Bool.true_and, Bool.and_false, Bool.false_and, Bool.not_true, Bool.not_false, List.isEmpty_map, PM.setS, PM.augIxS, PM.isD, PM.isNonD, PM.isBlD, PM.isNotD, PM.sumD, PM.allD, PM.anyD, PM.absD, PM.gcdD, PM.bitsD, PM.maxD, PM.minD, reduceCtorEq, decide_true, decide_false, eq_self, Nat.zero_add, Nat.reduceAdd, Nat.reduceSub, Nat.reduceLT, Nat.reduceEqDiff, negative_ok, e]
theorem times_ok {n : Nat} {r s : Q} (h : Fr n r) (k : Fr n s) (z : n ≤ 3000) : M_times [T r, T s] = .ok (false, T (lw (r.1 * s.1) (r.2 * s.2))) := by
  have e := ratio_ok (p := r.1 * s.1) (mul_ne h.ne k.ne) (nb_up (pl_nb h k).2 (by omega))
  unfold M_times S_times T
  simp only [PM.tgT, PM.tgs, PM.callE, PM.runF, PM.initE, PM.seqS, PM.asgS, PM.tgS, PM.parS, PM.appS, PM.augS, PM.dropS, PM.retS, PM.retN, PM.retV, PM.ifS, PM.forS, PM.M.thenS, PM.M.bind, PM.M.lift, PM.ret, PM.cst, PM.var, PM.pvar, PM.pk, PM.bin, PM.asB, PM.truth, PM.tru, PM.tand, PM.tor, PM.tnot, PM.vand, PM.vor, PM.vnot, PM.iff, PM.sli, PM.ono, PM.oin, PM.acons, PM.anil, PM.cnil, PM.cval, PM.cvw, PM.lstE, PM.tupE, PM.blt, PM.isi, PM.una, PM.smE, PM.src, PM.rng1, PM.rng2, PM.skip, PM.brkS, PM.cntS, PM.tgN, PM.itemsD, PM.tyD, PM.Ty.sub, PM.addD, PM.addIA, PM.subD, PM.mulD, PM.mulID, PM.fdivD, PM.modD, PM.powD, PM.ltD, PM.leD, PM.gtD, PM.geD, PM.cmpD, PM.eqD, PM.neD, PM.ixD, PM.sliceD, PM.lenD, PM.intD, PM.strD, PM.listD, PM.tupD, PM.joinD, PM.rjustD, PM.negD, List.length_cons, List.length_nil, List.getElem?_cons_zero, List.getElem?_cons_succ, List.set_cons_zero, List.set_cons_succ, List.map_cons, List.map_nil, List.cons_append, List.nil_append, List.append_nil, List.replicate, List.length_map, List.length_append, if_true, if_false, ite_true, ite_false, reduceIte, Bool.false_eq_true, decide_eq_true_eq, Option.map_some, Option.map_none, Option.bind_some, Option.bind_none, Option.some.injEq, Option.join, List.isEmpty_cons, List.isEmpty_nil, List.all_cons, List.all_nil, PM.owned, PM.noLS, PM.noL, PM.noLs, Bool.or_true, Bool.true_or, Bool.or_false, Bool.false_or, Bool.and_true, Bool.true_and, Bool.and_false, Bool.false_and, Bool.not_true, Bool.not_false, List.isEmpty_map, PM.setS, PM.augIxS, PM.isD, PM.isNonD, PM.isBlD, PM.isNotD, PM.sumD, PM.allD, PM.anyD, PM.absD, PM.gcdD, PM.bitsD, PM.maxD, PM.minD, reduceCtorEq, decide_true, decide_false, eq_self, Nat.zero_add, Nat.reduceAdd, Nat.reduceSub, Nat.reduceLT, Nat.reduceEqDiff, at0, at1, mul_nb h.a k.a (show n + n < 1000000 by omega), mul_nb h.b k.b (show n + n < 1000000 by omega), e]
  rfl
def sg (n : Int) : Int := if 0 < n then 1 else if n < 0 then -1 else 0
theorem sign_ok (r : Q) : M_sign [T r] = .ok (false, .int (sg r.1)) := by
  unfold M_sign S_sign T sg
  by_cases h : 0 < r.1
  · have h2 : ¬ r.1 < 0 := by omega
    simp only [PM.tgT, PM.tgs, PM.callE, PM.runF, PM.initE, PM.seqS, PM.asgS, PM.tgS, PM.parS, PM.appS, PM.augS, PM.dropS, PM.retS, PM.retN, PM.retV, PM.ifS, PM.forS, PM.M.thenS, PM.M.bind, PM.M.lift, PM.ret, PM.cst, PM.var, PM.pvar, PM.pk, PM.bin, PM.asB, PM.truth, PM.tru, PM.tand, PM.tor, PM.tnot, PM.vand, PM.vor, PM.vnot, PM.iff, PM.sli, PM.ono, PM.oin, PM.acons, PM.anil, PM.cnil, PM.cval, PM.cvw, PM.lstE, PM.tupE, PM.blt, PM.isi, PM.una, PM.smE, PM.src, PM.rng1, PM.rng2, PM.skip, PM.brkS, PM.cntS, PM.tgN, PM.itemsD, PM.tyD, PM.Ty.sub, PM.addD, PM.addIA, PM.subD, PM.mulD, PM.mulID, PM.fdivD, PM.modD, PM.powD, PM.ltD, PM.leD, PM.gtD, PM.geD, PM.cmpD, PM.eqD, PM.neD, PM.ixD, PM.sliceD, PM.lenD, PM.intD, PM.strD, PM.listD, PM.tupD, PM.joinD, PM.rjustD, PM.negD, List.length_cons, List.length_nil, List.getElem?_cons_zero, List.getElem?_cons_succ, List.set_cons_zero, List.set_cons_succ, List.map_cons, List.map_nil, List.cons_append, List.nil_append, List.append_nil, List.replicate, List.length_map, List.length_append, if_true, if_false, ite_true, ite_false, reduceIte, Bool.false_eq_true, decide_eq_true_eq, Option.map_some, Option.map_none, Option.bind_some, Option.bind_none, Option.some.injEq, Option.join, List.isEmpty_cons, List.isEmpty_nil, List.all_cons, List.all_nil, PM.owned, PM.noLS, PM.noL, PM.noLs, Bool.or_true, Bool.true_or, Bool.or_false, Bool.false_or, Bool.and_true, Bool.true_and, Bool.and_false, Bool.false_and, Bool.not_true, Bool.not_false, List.isEmpty_map, PM.setS, PM.augIxS, PM.isD, PM.isNonD, PM.isBlD, PM.isNotD, PM.sumD, PM.allD, PM.anyD, PM.absD, PM.gcdD, PM.bitsD, PM.maxD, PM.minD, reduceCtorEq, decide_true, decide_false, eq_self, Nat.zero_add, Nat.reduceAdd, Nat.reduceSub, Nat.reduceLT, Nat.reduceEqDiff, at0, at1, decide_eq_true h, decide_eq_false h2, h, Int.sub_zero]
  · by_cases h2 : r.1 < 0
    · simp only [PM.tgT, PM.tgs, PM.callE, PM.runF, PM.initE, PM.seqS, PM.asgS, PM.tgS, PM.parS, PM.appS, PM.augS, PM.dropS, PM.retS, PM.retN, PM.retV, PM.ifS, PM.forS, PM.M.thenS, PM.M.bind, PM.M.lift, PM.ret, PM.cst, PM.var, PM.pvar, PM.pk, PM.bin, PM.asB, PM.truth, PM.tru, PM.tand, PM.tor, PM.tnot, PM.vand, PM.vor, PM.vnot, PM.iff, PM.sli, PM.ono, PM.oin, PM.acons, PM.anil, PM.cnil, PM.cval, PM.cvw, PM.lstE, PM.tupE, PM.blt, PM.isi, PM.una, PM.smE, PM.src, PM.rng1, PM.rng2, PM.skip, PM.brkS, PM.cntS, PM.tgN, PM.itemsD, PM.tyD, PM.Ty.sub, PM.addD, PM.addIA, PM.subD, PM.mulD, PM.mulID, PM.fdivD, PM.modD, PM.powD, PM.ltD, PM.leD, PM.gtD, PM.geD, PM.cmpD, PM.eqD, PM.neD, PM.ixD, PM.sliceD, PM.lenD, PM.intD, PM.strD, PM.listD, PM.tupD, PM.joinD, PM.rjustD, PM.negD, List.length_cons, List.length_nil, List.getElem?_cons_zero, List.getElem?_cons_succ, List.set_cons_zero, List.set_cons_succ, List.map_cons, List.map_nil, List.cons_append, List.nil_append, List.append_nil, List.replicate, List.length_map, List.length_append, if_true, if_false, ite_true, ite_false, reduceIte, Bool.false_eq_true, decide_eq_true_eq, Option.map_some, Option.map_none, Option.bind_some, Option.bind_none, Option.some.injEq, Option.join, List.isEmpty_cons, List.isEmpty_nil, List.all_cons, List.all_nil, PM.owned, PM.noLS, PM.noL, PM.noLs, Bool.or_true, Bool.true_or, Bool.or_false, Bool.false_or, Bool.and_true, Bool.true_and, Bool.and_false, Bool.false_and, Bool.not_true, Bool.not_false, List.isEmpty_map, PM.setS, PM.augIxS, PM.isD, PM.isNonD, PM.isBlD, PM.isNotD, PM.sumD, PM.allD, PM.anyD, PM.absD, PM.gcdD, PM.bitsD, PM.maxD, PM.minD, reduceCtorEq, decide_true, decide_false, eq_self, Nat.zero_add, Nat.reduceAdd, Nat.reduceSub, Nat.reduceLT, Nat.reduceEqDiff, at0, at1, decide_eq_false h, decide_eq_true h2, h, h2]
      rfl
    · simp only [PM.tgT, PM.tgs, PM.callE, PM.runF, PM.initE, PM.seqS, PM.asgS, PM.tgS, PM.parS, PM.appS, PM.augS, PM.dropS, PM.retS, PM.retN, PM.retV, PM.ifS, PM.forS, PM.M.thenS, PM.M.bind, PM.M.lift, PM.ret, PM.cst, PM.var, PM.pvar, PM.pk, PM.bin, PM.asB, PM.truth, PM.tru, PM.tand, PM.tor, PM.tnot, PM.vand, PM.vor, PM.vnot, PM.iff, PM.sli, PM.ono, PM.oin, PM.acons, PM.anil, PM.cnil, PM.cval, PM.cvw, PM.lstE, PM.tupE, PM.blt, PM.isi, PM.una, PM.smE, PM.src, PM.rng1, PM.rng2, PM.skip, PM.brkS, PM.cntS, PM.tgN, PM.itemsD, PM.tyD, PM.Ty.sub, PM.addD, PM.addIA, PM.subD, PM.mulD, PM.mulID, PM.fdivD, PM.modD, PM.powD, PM.ltD, PM.leD, PM.gtD, PM.geD, PM.cmpD, PM.eqD, PM.neD, PM.ixD, PM.sliceD, PM.lenD, PM.intD, PM.strD, PM.listD, PM.tupD, PM.joinD, PM.rjustD, PM.negD, List.length_cons, List.length_nil, List.getElem?_cons_zero, List.getElem?_cons_succ, List.set_cons_zero, List.set_cons_succ, List.map_cons, List.map_nil, List.cons_append, List.nil_append, List.append_nil, List.replicate, List.length_map, List.length_append, if_true, if_false, ite_true, ite_false, reduceIte, Bool.false_eq_true, decide_eq_true_eq, Option.map_some, Option.map_none, Option.bind_some, Option.bind_none, Option.some.injEq, Option.join, List.isEmpty_cons, List.isEmpty_nil, List.all_cons, List.all_nil, PM.owned, PM.noLS, PM.noL, PM.noLs, Bool.or_true, Bool.true_or, Bool.or_false, Bool.false_or, Bool.and_true, Bool.true_and, Bool.and_false, Bool.false_and, Bool.not_true, Bool.not_false, List.isEmpty_map, PM.setS, PM.augIxS, PM.isD, PM.isNonD, PM.isBlD, PM.isNotD, PM.sumD, PM.allD, PM.anyD, PM.absD, PM.gcdD, PM.bitsD, PM.maxD, PM.minD, reduceCtorEq, decide_true, decide_false, eq_self, Nat.zero_add, Nat.reduceAdd, Nat.reduceSub, Nat.reduceLT, Nat.reduceEqDiff, at0, at1, decide_eq_false h, decide_eq_false h2, h, h2]
      rfl
theorem sg_mul {g x : Int} (h : 0 < g) : sg (g * x) = sg x := by
  unfold sg
  simp only [pos_mul h, neg_mul' h]
theorem sg_lw {p q : Int} (h : 0 < q) : sg (lw p q).1 = sg p := by
  have e := (lw_eq (p := p) (q := q) (by omega)).1
  rw [Int.sign_eq_one_of_pos h, Int.mul_one] at e
  rw [show sg p = sg (gg p q * (lw p q).1) by rw [e], sg_mul (gg_pos (by omega))]
/-! ### the law's lowest terms -/
theorem mod_half {b r : Int} (hr : 0 < r) (h : r < b) : 2 * (b % r) < b := by
  have h1 := Int.emod_lt_of_pos b hr
  have h2 := Int.emod_nonneg b (show r ≠ 0 by omega)
  have h3 := Int.mul_ediv_add_emod b r
  by_cases c : 2 * r ≤ b
  · omega
  · have q : 1 ≤ b / r := by
      rcases Int.lt_or_le (b / r) 1 with z | z
      · have := Int.mul_le_mul_of_nonneg_left (show b / r ≤ 0 by omega) (Int.le_of_lt hr)
        rw [Int.mul_zero] at this
        omega
      · exact z
    have := Int.mul_le_mul_of_nonneg_left q (Int.le_of_lt hr)
    rw [Int.mul_one] at this
    omega
theorem euclid (m : Nat) : ∀ (ds : List D) (a b : Int) (x0 x1 x4 x5 : Option PM.Slot), 0 ≤ a → 0 ≤ b → b < 2 ^ m → 2 * m ≤ ds.length →
    ∃ x4' x5', forF (tgN 4) L1__law_lowest ds [x0, x1, some (false, .int a), some (false, .int b), x4, x5] = .nx [x0, x1, some (false, .int ((Nat.gcd a.natAbs b.natAbs : Nat) : Int)), some (false, .int 0), x4', x5'] := by
  -- with b = 0 nothing goes on
  have idle : ∀ (ds : List D) (a : Int) (x0 x1 x4 x5 : Option PM.Slot), ∃ x4', forF (tgN 4) L1__law_lowest ds [x0, x1, some (false, .int a), some (false, .int 0), x4, x5] = .nx [x0, x1, some (false, .int a), some (false, .int 0), x4', x5] := by
    intro ds
    induction ds with
    | nil => exact fun a x0 x1 x4 x5 => ⟨x4, rfl⟩
    | cons d ds ih =>
      intro a x0 x1 x4 x5
      obtain ⟨x4', e⟩ := ih a x0 x1 (some (false, d)) x5
      refine ⟨x4', ?_⟩
      rw [for_go (T := tgN 4) (S := L1__law_lowest) (d := d) (ρ := [x0, x1, some (false, .int a), some (false, .int 0), x4, x5]) (ρ1 := [x0, x1, some (false, .int a), some (false, .int 0), some (false, d), x5]) (ρ2 := [x0, x1, some (false, .int a), some (false, .int 0), some (false, d), x5]) rfl rfl, e]
  have step : ∀ (d : D) (ds : List D) (a b : Int) (x0 x1 x4 x5 : Option PM.Slot), 0 < b → forF (tgN 4) L1__law_lowest (d :: ds) [x0, x1, some (false, .int a), some (false, .int b), x4, x5] = forF (tgN 4) L1__law_lowest ds [x0, x1, some (false, .int b), some (false, .int (a % b)), some (false, d), some (false, .int (a % b))] := by
    intro d ds a b x0 x1 x4 x5 hb
    rw [for_go (ρ1 := [x0, x1, some (false, .int a), some (false, .int b), some (false, d), x5]) (ρ2 := [x0, x1, some (false, .int b), some (false, .int (a % b)), some (false, d), some (false, .int (a % b))]) rfl]
    simp only [L1__law_lowest, PM.tgT, PM.tgs, PM.callE, PM.runF, PM.initE, PM.seqS, PM.asgS, PM.tgS, PM.parS, PM.appS, PM.augS, PM.dropS, PM.retS, PM.retN, PM.retV, PM.ifS, PM.forS, PM.M.thenS, PM.M.bind, PM.M.lift, PM.ret, PM.cst, PM.var, PM.pvar, PM.pk, PM.bin, PM.asB, PM.truth, PM.tru, PM.tand, PM.tor, PM.tnot, PM.vand, PM.vor, PM.vnot, PM.iff, PM.sli, PM.ono, PM.oin, PM.acons, PM.anil, PM.cnil, PM.cval, PM.cvw, PM.lstE, PM.tupE, PM.blt, PM.isi, PM.una, PM.smE, PM.src, PM.rng1, PM.rng2, PM.skip, PM.brkS, PM.cntS, PM.tgN, PM.itemsD, PM.tyD, PM.Ty.sub, PM.addD, PM.addIA, PM.subD, PM.mulD, PM.mulID, PM.fdivD, PM.modD, PM.powD, PM.ltD, PM.leD, PM.gtD, PM.geD, PM.cmpD, PM.eqD, PM.neD, PM.ixD, PM.sliceD, PM.lenD, PM.intD, PM.strD, PM.listD, PM.tupD, PM.joinD, PM.rjustD, PM.negD, List.length_cons, List.length_nil, List.getElem?_cons_zero, List.getElem?_cons_succ, List.set_cons_zero, List.set_cons_succ, List.map_cons, List.map_nil, List.cons_append, List.nil_append, List.append_nil, List.replicate, List.length_map, List.length_append, if_true, if_false, ite_true, ite_false, reduceIte, Bool.false_eq_true, decide_eq_true_eq, Option.map_some, Option.map_none, Option.bind_some, Option.bind_none, Option.some.injEq, Option.join, List.isEmpty_cons, List.isEmpty_nil, List.all_cons, List.all_nil, PM.owned, PM.noLS, PM.noL, PM.noLs, Bool.or_true, Bool.true_or, Bool.or_false, Bool.false_or, Bool.and_true, Bool.true_and, Bool.and_false, Bool.false_and, Bool.not_true, Bool.not_false, List.isEmpty_map, PM.setS, PM.augIxS, PM.isD, PM.isNonD, PM.isBlD, PM.isNotD, PM.sumD, PM.allD, PM.anyD, PM.absD, PM.gcdD, PM.bitsD, PM.maxD, PM.minD, reduceCtorEq, decide_true, decide_false, eq_self, Nat.zero_add, Nat.reduceAdd, Nat.reduceSub, Nat.reduceLT, Nat.reduceEqDiff, eqv_int, decide_eq_false (show ¬ b = 0 by omega), hb]
  have gs : ∀ a b : Int, 0 ≤ a → 0 < b → Nat.gcd b.natAbs (a % b).natAbs = Nat.gcd a.natAbs b.natAbs := fun a b h0 hb => by
    have : (a % b).natAbs = a.natAbs % b.natAbs := by
      obtain ⟨x, rfl⟩ := Int.eq_ofNat_of_zero_le h0
      obtain ⟨y, rfl⟩ := Int.eq_ofNat_of_zero_le (Int.le_of_lt hb)
      rw [← Int.natCast_emod]
      rfl
    rw [this, Nat.gcd_comm b.natAbs, ← Nat.gcd_rec, Nat.gcd_comm]
  have g0 : ∀ a : Int, 0 ≤ a → ((Nat.gcd a.natAbs (0 : Int).natAbs : Nat) : Int) = a := fun a h => by simp; omega
  induction m with
  | zero =>
    intro ds a b x0 x1 x4 x5 ha hb hm hl
    have : b = 0 := by simp at hm; omega
    subst this
    obtain ⟨x4', e⟩ := idle ds a x0 x1 x4 x5
    exact ⟨x4', x5, by rw [g0 a ha]; exact e⟩
  | succ m ih =>
    intro ds a b x0 x1 x4 x5 ha hb hm hl
    obtain ⟨d, d2, ds, rfl⟩ : ∃ d d2 ds', ds = d :: d2 :: ds' := by
      match ds, hl with
      | [], h => simp at h
      | [_], h => simp at h; omega
      | d :: d2 :: ds, _ => exact ⟨d, d2, ds, rfl⟩
    by_cases z : b = 0
    · subst z
      obtain ⟨x4', e⟩ := idle (d :: d2 :: ds) a x0 x1 x4 x5
      exact ⟨x4', x5, by rw [g0 a ha]; exact e⟩
    · have hb' : 0 < b := by omega
      rw [step _ _ _ _ _ _ _ _ hb']
      have r0 := Int.emod_nonneg a (show b ≠ 0 by omega)
      have r1 := Int.emod_lt_of_pos a hb'
      by_cases z2 : a % b = 0
      · rw [z2]
        obtain ⟨x4', e⟩ := idle (d2 :: ds) b x0 x1 (some (false, d)) (some (false, .int 0))
        refine ⟨x4', some (false, .int 0), ?_⟩
        rw [e, ← gs a b ha hb', z2, g0 b hb]
      · have hr : 0 < a % b := by omega
        rw [step _ _ _ _ _ _ _ _ hr]
        have s0 := Int.emod_nonneg b (show a % b ≠ 0 by omega)
        have s1 := Int.emod_lt_of_pos b hr
        have half := mod_half hr r1
        obtain ⟨x4', x5', e⟩ := ih ds (a % b) (b % (a % b)) x0 x1 (some (false, d2)) (some (false, .int (b % (a % b)))) r0 s0 (by rw [Int.pow_succ] at hm; omega) (by simp at hl; omega)
        refine ⟨x4', x5', ?_⟩
        rw [e, gs b (a % b) hb hr, gs a b ha hb']

theorem bits_lt {q : Int} (h : 0 < q) : q < 2 ^ (Builtin.Int.intBits q) := by
  unfold Builtin.Int.intBits
  rw [if_neg (by simp; omega)]
  have := Nat.lt_log2_self (n := q.natAbs)
  have h2 : ((q.natAbs : Nat) : Int) < ((2 ^ (q.natAbs.log2 + 1) : Nat) : Int) := Int.ofNat_lt.mpr this
  rw [Int.natCast_pow] at h2
  have h3 : (q.natAbs : Int) = q := by omega
  rw [h3] at h2
  exact h2
theorem bits_le {q : Int} {n : Nat} (h : 0 < q) (b : nb n q) : Builtin.Int.intBits q ≤ n + 1 := by
  unfold Builtin.Int.intBits
  rw [if_neg (by simp; omega)]
  have := nb_log b
  omega
theorem ints_len (B : Int) (h : 0 ≤ B) : (intsR 0 (2 * B + 2).toNat).length = 2 * B.toNat + 2 := by
  unfold intsR
  rw [List.length_map, List.length_range]
  omega
theorem low_walk {p' q' t B g : Int} {x4 x5 : Option PM.Slot} (hB : 0 ≤ B) (hB2 : B ≤ 100000) (hU : (Builtin.Int.intBits q' : Int) = B)
    (e : forF (tgN 4) L1__law_lowest (intsR 0 (2 * B + 2).toNat) [some (false, .int p'), some (false, .int q'), some (false, .int t), some (false, .int q'), none, none] = .nx [some (false, .int p'), some (false, .int q'), some (false, .int g), some (false, .int 0), x4, x5]) :
    forS (rng1 (acons (pk (PM.bin addD (pk (PM.bin mulD (pk (cst (.int 2))) (pk (una bitsD (pvar 1))))) (pk (cst (.int 2))))) anil)) (tgN 4) L1__law_lowest [some (false, .int p'), some (false, .int q'), some (false, .int t), some (false, .int q'), none, none] = .nx [some (false, .int p'), some (false, .int q'), some (false, .int g), some (false, .int 0), x4, x5] := by
  have hU : una bitsD (pvar 1) [some (false, .int p'), some (false, .int q'), some (false, .int t), some (false, .int q'), none, none] = .ok (false, .int B) [some (false, .int p'), some (false, .int q'), some (false, .int t), some (false, .int q'), none, none] := by
    rw [← hU]
    rfl
  have hB2 : -(2 ^ 62) ≤ 2 * B + 2 ∧ 2 * B + 2 < 2 ^ 62 := by omega
  simp only [PM.tgT, PM.tgs, PM.callE, PM.runF, PM.initE, PM.seqS, PM.asgS, PM.tgS, PM.parS, PM.appS, PM.augS, PM.dropS, PM.retS, PM.retN, PM.retV, PM.ifS, PM.forS, PM.M.thenS, PM.M.bind, PM.M.lift, PM.ret, PM.cst, PM.var, PM.pvar, PM.pk, PM.bin, PM.asB, PM.truth, PM.tru, PM.tand, PM.tor, PM.tnot, PM.vand, PM.vor, PM.vnot, PM.iff, PM.sli, PM.ono, PM.oin, PM.acons, PM.anil, PM.cnil, PM.cval, PM.cvw, PM.lstE, PM.tupE, PM.blt, PM.isi, PM.smE, PM.src, PM.rng1, PM.rng2, PM.skip, PM.brkS, PM.cntS, PM.tgN, PM.itemsD, PM.tyD, PM.Ty.sub, PM.addD, PM.addIA, PM.subD, PM.mulD, PM.mulID, PM.fdivD, PM.modD, PM.powD, PM.ltD, PM.leD, PM.gtD, PM.geD, PM.cmpD, PM.eqD, PM.neD, PM.ixD, PM.sliceD, PM.lenD, PM.intD, PM.strD, PM.listD, PM.tupD, PM.joinD, PM.rjustD, PM.negD, List.length_cons, List.length_nil, List.getElem?_cons_zero, List.getElem?_cons_succ, List.set_cons_zero, List.set_cons_succ, List.map_cons, List.map_nil, List.cons_append, List.nil_append, List.append_nil, List.replicate, List.length_map, List.length_append, if_true, if_false, ite_true, ite_false, reduceIte, Bool.false_eq_true, decide_eq_true_eq, Option.map_some, Option.map_none, Option.bind_some, Option.bind_none, Option.some.injEq, Option.join, List.isEmpty_cons, List.isEmpty_nil, List.all_cons, List.all_nil, PM.owned, PM.noLS, PM.noL, PM.noLs, Bool.or_true, Bool.true_or, Bool.or_false, Bool.false_or, Bool.and_true, Bool.true_and, Bool.and_false, Bool.false_and, Bool.not_true, Bool.not_false, List.isEmpty_map, PM.setS, PM.augIxS, PM.isD, PM.isNonD, PM.isBlD, PM.isNotD, PM.sumD, PM.allD, PM.anyD, PM.absD, PM.gcdD, PM.maxD, PM.minD, reduceCtorEq, decide_true, decide_false, eq_self, Nat.zero_add, Nat.reduceAdd, Nat.reduceSub, Nat.reduceLT, Nat.reduceEqDiff, hU, hB2, mulOk_l (show -(2 ^ 64) < (2 : Int) by decide) (show (2 : Int) < 2 ^ 64 by decide), and_self, e]
theorem lowest_ok {p q : Int} (h : q ≠ 0) (b : nb 4000 q) : M__law_lowest [.int p, .int q] = .ok (false, T (lw p q)) := by
  have g := gg_pos (p := p) h
  have hlog : (gg p q).natAbs.log2 < 9000 := by have := nb_log (gg_nb (p := p) h b); omega
  -- for q > 0
  have key : ∀ (p' q' : Int), 0 < q' → nb 4000 q' → gg p' q' = gg p q → p' / gg p q = (lw p q).1 → q' / gg p q = (lw p q).2 → ∀ (t : Int), t = (if p' < 0 then -p' else p') →
      seqS (asgS 2 (blt absD (acons (pvar 0) anil))) (seqS (asgS 3 (var 1)) (seqS (forS (rng1 (acons (pk (PM.bin addD (pk (PM.bin mulD (pk (cst (.int 2))) (pk (una bitsD (pvar 1))))) (pk (cst (.int 2))))) anil)) (tgN 4) L1__law_lowest)
        (retS (tupE (acons (pk (PM.bin fdivD (pvar 0) (pvar 2))) (acons (pk (PM.bin fdivD (pvar 1) (pvar 2))) anil)))))) [some (false, .int p'), some (false, .int q'), none, none, none, none] = .rt (false, T (lw p q)) := by
    intro p' q' hq hb hgg e1 e2 t ht
    have ht0 : t = (p'.natAbs : Int) := by rw [ht]; split <;> omega
    rw [seq_nx (ρ1 := [some (false, .int p'), some (false, .int q'), some (false, .int t), none, none, none]) (by simp only [PM.tgT, PM.tgs, PM.callE, PM.runF, PM.initE, PM.seqS, PM.asgS, PM.tgS, PM.parS, PM.appS, PM.augS, PM.dropS, PM.retS, PM.retN, PM.retV, PM.ifS, PM.forS, PM.M.thenS, PM.M.bind, PM.M.lift, PM.ret, PM.cst, PM.var, PM.pvar, PM.pk, PM.bin, PM.asB, PM.truth, PM.tru, PM.tand, PM.tor, PM.tnot, PM.vand, PM.vor, PM.vnot, PM.iff, PM.sli, PM.ono, PM.oin, PM.acons, PM.anil, PM.cnil, PM.cval, PM.cvw, PM.lstE, PM.tupE, PM.blt, PM.isi, PM.una, PM.smE, PM.src, PM.rng1, PM.rng2, PM.skip, PM.brkS, PM.cntS, PM.tgN, PM.itemsD, PM.tyD, PM.Ty.sub, PM.addD, PM.addIA, PM.subD, PM.mulD, PM.mulID, PM.fdivD, PM.modD, PM.powD, PM.ltD, PM.leD, PM.gtD, PM.geD, PM.cmpD, PM.eqD, PM.neD, PM.ixD, PM.sliceD, PM.lenD, PM.intD, PM.strD, PM.listD, PM.tupD, PM.joinD, PM.rjustD, PM.negD, List.length_cons, List.length_nil, List.getElem?_cons_zero, List.getElem?_cons_succ, List.set_cons_zero, List.set_cons_succ, List.map_cons, List.map_nil, List.cons_append, List.nil_append, List.append_nil, List.replicate, List.length_map, List.length_append, if_true, if_false, ite_true, ite_false, reduceIte, Bool.false_eq_true, decide_eq_true_eq, Option.map_some, Option.map_none, Option.bind_some, Option.bind_none, Option.some.injEq, Option.join, List.isEmpty_cons, List.isEmpty_nil, List.all_cons, List.all_nil, PM.owned, PM.noLS, PM.noL, PM.noLs, Bool.or_true, Bool.true_or, Bool.or_false, Bool.false_or, Bool.and_true, Bool.true_and, Bool.and_false, Bool.false_and, Bool.not_true, Bool.not_false, List.isEmpty_map, PM.setS, PM.augIxS, PM.isD, PM.isNonD, PM.isBlD, PM.isNotD, PM.sumD, PM.allD, PM.anyD, PM.absD, PM.gcdD, PM.bitsD, PM.maxD, PM.minD, reduceCtorEq, decide_true, decide_false, eq_self, Nat.zero_add, Nat.reduceAdd, Nat.reduceSub, Nat.reduceLT, Nat.reduceEqDiff, ht]), seq_nx (S1 := asgS 3 (var 1)) (ρ := [some (false, .int p'), some (false, .int q'), some (false, .int t), none, none, none]) (ρ1 := [some (false, .int p'), some (false, .int q'), some (false, .int t), some (false, .int q'), none, none]) rfl]
    obtain ⟨B, hB⟩ : ∃ B : Int, (Builtin.Int.intBits q' : Int) = B := ⟨_, rfl⟩
    have hle := bits_le hq hb
    have hB0 : 0 ≤ B ∧ B ≤ 4001 := by omega
    have hBn : B.toNat = Builtin.Int.intBits q' := by omega
    obtain ⟨x4, x5, e⟩ := euclid (Builtin.Int.intBits q') (intsR 0 (2 * B + 2).toNat) t q' (some (false, .int p')) (some (false, .int q')) none none (by omega) (Int.le_of_lt hq) (bits_lt hq) (by rw [ints_len B hB0.1, hBn]; omega)
    have hgt : ((Nat.gcd t.natAbs q'.natAbs : Nat) : Int) = gg p q := by
      rw [← hgg, ht0]
      rfl
    rw [hgt] at e
    rw [seq_nx (low_walk hB0.1 (by omega) hB e)]
    simp only [PM.tgT, PM.tgs, PM.callE, PM.runF, PM.initE, PM.seqS, PM.asgS, PM.tgS, PM.parS, PM.appS, PM.augS, PM.dropS, PM.retS, PM.retN, PM.retV, PM.ifS, PM.forS, PM.M.thenS, PM.M.bind, PM.M.lift, PM.ret, PM.cst, PM.var, PM.pvar, PM.pk, PM.bin, PM.asB, PM.truth, PM.tru, PM.tand, PM.tor, PM.tnot, PM.vand, PM.vor, PM.vnot, PM.iff, PM.sli, PM.ono, PM.oin, PM.acons, PM.anil, PM.cnil, PM.cval, PM.cvw, PM.lstE, PM.tupE, PM.blt, PM.isi, PM.una, PM.smE, PM.src, PM.rng1, PM.rng2, PM.skip, PM.brkS, PM.cntS, PM.tgN, PM.itemsD, PM.tyD, PM.Ty.sub, PM.addD, PM.addIA, PM.subD, PM.mulD, PM.mulID, PM.fdivD, PM.modD, PM.powD, PM.ltD, PM.leD, PM.gtD, PM.geD, PM.cmpD, PM.eqD, PM.neD, PM.ixD, PM.sliceD, PM.lenD, PM.intD, PM.strD, PM.listD, PM.tupD, PM.joinD, PM.rjustD, PM.negD, List.length_cons, List.length_nil, List.getElem?_cons_zero, List.getElem?_cons_succ, List.set_cons_zero, List.set_cons_succ, List.map_cons, List.map_nil, List.cons_append, List.nil_append, List.append_nil, List.replicate, List.length_map, List.length_append, if_true, if_false, ite_true, ite_false, reduceIte, Bool.false_eq_true, decide_eq_true_eq, Option.map_some, Option.map_none, Option.bind_some, Option.bind_none, Option.some.injEq, Option.join, List.isEmpty_cons, List.isEmpty_nil, List.all_cons, List.all_nil, PM.owned, PM.noLS, PM.noL, PM.noLs, Bool.or_true, Bool.true_or, Bool.or_false, Bool.false_or, Bool.and_true, Bool.true_and, Bool.and_false, Bool.false_and, Bool.not_true, Bool.not_false, List.isEmpty_map, PM.setS, PM.augIxS, PM.isD, PM.isNonD, PM.isBlD, PM.isNotD, PM.sumD, PM.allD, PM.anyD, PM.absD, PM.gcdD, PM.bitsD, PM.maxD, PM.minD, reduceCtorEq, decide_true, decide_false, eq_self, Nat.zero_add, Nat.reduceAdd, Nat.reduceSub, Nat.reduceLT, Nat.reduceEqDiff, g, hlog, and_self, e1, e2, show 2 ≤ sizeLine by decide]
    rfl
  refine run_rt rfl ?_
  unfold S__law_lowest
  by_cases hn : q < 0
  · rw [seq_nx (ρ1 := [some (false, .int (-p)), some (false, .int (-q)), none, none, none, none]) (by simp only [PM.tgT, PM.tgs, PM.callE, PM.runF, PM.initE, PM.seqS, PM.asgS, PM.tgS, PM.parS, PM.appS, PM.augS, PM.dropS, PM.retS, PM.retN, PM.retV, PM.ifS, PM.forS, PM.M.thenS, PM.M.bind, PM.M.lift, PM.ret, PM.cst, PM.var, PM.pvar, PM.pk, PM.bin, PM.asB, PM.truth, PM.tru, PM.tand, PM.tor, PM.tnot, PM.vand, PM.vor, PM.vnot, PM.iff, PM.sli, PM.ono, PM.oin, PM.acons, PM.anil, PM.cnil, PM.cval, PM.cvw, PM.lstE, PM.tupE, PM.blt, PM.isi, PM.una, PM.smE, PM.src, PM.rng1, PM.rng2, PM.skip, PM.brkS, PM.cntS, PM.tgN, PM.itemsD, PM.tyD, PM.Ty.sub, PM.addD, PM.addIA, PM.subD, PM.mulD, PM.mulID, PM.fdivD, PM.modD, PM.powD, PM.ltD, PM.leD, PM.gtD, PM.geD, PM.cmpD, PM.eqD, PM.neD, PM.ixD, PM.sliceD, PM.lenD, PM.intD, PM.strD, PM.listD, PM.tupD, PM.joinD, PM.rjustD, PM.negD, List.length_cons, List.length_nil, List.getElem?_cons_zero, List.getElem?_cons_succ, List.set_cons_zero, List.set_cons_succ, List.map_cons, List.map_nil, List.cons_append, List.nil_append, List.append_nil, List.replicate, List.length_map, List.length_append, if_true, if_false, ite_true, ite_false, reduceIte, Bool.false_eq_true, decide_eq_true_eq, Option.map_some, Option.map_none, Option.bind_some, Option.bind_none, Option.some.injEq, Option.join, List.isEmpty_cons, List.isEmpty_nil, List.all_cons, List.all_nil, PM.owned, PM.noLS, PM.noL, PM.noLs, Bool.or_true, Bool.true_or, Bool.or_false, Bool.false_or, Bool.and_true, Bool.true_and, Bool.and_false, Bool.false_and, Bool.not_true, Bool.not_false, List.isEmpty_map, PM.setS, PM.augIxS, PM.isD, PM.isNonD, PM.isBlD, PM.isNotD, PM.sumD, PM.allD, PM.anyD, PM.absD, PM.gcdD, PM.bitsD, PM.maxD, PM.minD, reduceCtorEq, decide_true, decide_false, eq_self, Nat.zero_add, Nat.reduceAdd, Nat.reduceSub, Nat.reduceLT, Nat.reduceEqDiff, decide_eq_true hn])]
    refine key (-p) (-q) (by omega) (nb_neg b) (by unfold gg; simp) ?_ ?_ _ rfl
    · unfold lw
      rw [Int.sign_eq_neg_one_of_neg hn, Int.mul_neg_one]
    · unfold lw
      rw [Int.ofNat_natAbs_of_nonpos (Int.le_of_lt hn)]
  · rw [seq_nx (ρ1 := [some (false, .int p), some (false, .int q), none, none, none, none]) (by simp only [PM.tgT, PM.tgs, PM.callE, PM.runF, PM.initE, PM.seqS, PM.asgS, PM.tgS, PM.parS, PM.appS, PM.augS, PM.dropS, PM.retS, PM.retN, PM.retV, PM.ifS, PM.forS, PM.M.thenS, PM.M.bind, PM.M.lift, PM.ret, PM.cst, PM.var, PM.pvar, PM.pk, PM.bin, PM.asB, PM.truth, PM.tru, PM.tand, PM.tor, PM.tnot, PM.vand, PM.vor, PM.vnot, PM.iff, PM.sli, PM.ono, PM.oin, PM.acons, PM.anil, PM.cnil, PM.cval, PM.cvw, PM.lstE, PM.tupE, PM.blt, PM.isi, PM.una, PM.smE, PM.src, PM.rng1, PM.rng2, PM.skip, PM.brkS, PM.cntS, PM.tgN, PM.itemsD, PM.tyD, PM.Ty.sub, PM.addD, PM.addIA, PM.subD, PM.mulD, PM.mulID, PM.fdivD, PM.modD, PM.powD, PM.ltD, PM.leD, PM.gtD, PM.geD, PM.cmpD, PM.eqD, PM.neD, PM.ixD, PM.sliceD, PM.lenD, PM.intD, PM.strD, PM.listD, PM.tupD, PM.joinD, PM.rjustD, PM.negD, List.length_cons, List.length_nil, List.getElem?_cons_zero, List.getElem?_cons_succ, List.set_cons_zero, List.set_cons_succ, List.map_cons, List.map_nil, List.cons_append, List.nil_append, List.append_nil, List.replicate, List.length_map, List.length_append, if_true, if_false, ite_true, ite_false, reduceIte, Bool.false_eq_true, decide_eq_true_eq, Option.map_some, Option.map_none, Option.bind_some, Option.bind_none, Option.some.injEq, Option.join, List.isEmpty_cons, List.isEmpty_nil, List.all_cons, List.all_nil, PM.owned, PM.noLS, PM.noL, PM.noLs, Bool.or_true, Bool.true_or, Bool.or_false, Bool.false_or, Bool.and_true, Bool.true_and, Bool.and_false, Bool.false_and, Bool.not_true, Bool.not_false, List.isEmpty_map, PM.setS, PM.augIxS, PM.isD, PM.isNonD, PM.isBlD, PM.isNotD, PM.sumD, PM.allD, PM.anyD, PM.absD, PM.gcdD, PM.bitsD, PM.maxD, PM.minD, reduceCtorEq, decide_true, decide_false, eq_self, Nat.zero_add, Nat.reduceAdd, Nat.reduceSub, Nat.reduceLT, Nat.reduceEqDiff, decide_eq_false hn])]
    refine key p q (by omega) b rfl ?_ ?_ _ rfl
    · unfold lw
      rw [Int.sign_eq_one_of_pos (by omega), Int.mul_one]
    · unfold lw
      rw [Int.natAbs_of_nonneg (by omega)]
/-! ### ratios as Lean's own -/
def W (r : Rat) : D := T (r.num, (r.den : Int))
theorem lw_rat {p q : Int} (h : q ≠ 0) : T (lw p q) = W (Rat.divInt p q) := by
  have h1 := lw_pos (p := p) h
  have h2 := lw_cop (p := p) h
  obtain ⟨e1, e2⟩ := lw_eq (p := p) h
  have g := gg_pos (p := p) h
  generalize lw p q = r at *
  have c : (⟨r.1, r.2.natAbs, by omega, h2⟩ : Rat) = Rat.divInt p q := by
    rw [Rat.mk_eq_divInt, Int.natAbs_of_nonneg (by omega), Rat.divInt_eq_divInt_iff (by omega) h]
    apply Int.eq_of_mul_eq_mul_left (a := gg p q) (by omega)
    have hs : q.sign * q = (q.natAbs : Int) := by
      rcases Int.lt_or_lt_of_ne h with z | z
      · rw [Int.sign_eq_neg_one_of_neg z]; omega
      · rw [Int.sign_eq_one_of_pos z]; omega
    rw [← Int.mul_assoc, e1, Int.mul_comm p r.2, ← Int.mul_assoc, e2, Int.mul_assoc, hs, Int.mul_comm]
  rw [← c]
  unfold W T
  dsimp only
  rw [Int.natAbs_of_nonneg (by omega)]
/-- its size in bits -/
def bs (r : Rat) : Nat := max (r.num.natAbs.log2 + 1) (r.den.log2 + 1)
theorem bs_fr (r : Rat) : Fr (bs r) (r.num, (r.den : Int)) := by
  have h1 := Nat.lt_log2_self (n := r.num.natAbs)
  have h2 := Nat.lt_log2_self (n := r.den)
  have h3 : r.num.natAbs.log2 + 1 ≤ bs r := Nat.le_max_left _ _
  have h4 : r.den.log2 + 1 ≤ bs r := Nat.le_max_right _ _
  refine ⟨?_, ?_, ?_⟩
  · have := r.den_pos
    dsimp only; omega
  · unfold nb
    exact Nat.lt_of_lt_of_le h1 (Nat.pow_le_pow_right (by decide) h3)
  · unfold nb
    dsimp only
    rw [Int.natAbs_natCast]
    exact Nat.lt_of_lt_of_le h2 (Nat.pow_le_pow_right (by decide) h4)
theorem log_lt {n : Nat} {x : Nat} (h : x < 2 ^ (n + 1)) : x.log2 + 1 ≤ n + 1 := by
  by_cases z : x = 0
  · rw [z]; simp
  · have := (Nat.log2_lt z).mpr h
    omega
theorem fr_bs {r : Rat} {n : Nat} (h : Fr (n + 1) (r.num, (r.den : Int))) : bs r ≤ n + 1 := by
  have h1 := h.a
  have h2 := h.b
  unfold nb at h1 h2
  dsimp only at h1 h2
  rw [Int.natAbs_natCast] at h2
  exact Nat.max_le.mpr ⟨log_lt h1, log_lt h2⟩
theorem bs1 (r : Rat) : 1 ≤ bs r := by
  have h3 : r.num.natAbs.log2 + 1 ≤ bs r := Nat.le_max_left _ _
  omega
theorem lw_T {p q : Int} {r : Rat} (h : q ≠ 0) (e : Rat.divInt p q = r) : lw p q = (r.num, (r.den : Int)) := by
  have := lw_rat (p := p) h
  rw [e] at this
  unfold W T at this
  injection this with this
  injection this with a b
  injection b with b c
  injection a with a
  injection b with b
  exact Prod.ext a b
theorem bs_div {p q : Int} {n : Nat} {r : Rat} (h : q ≠ 0) (e : Rat.divInt p q = r) (a : nb (n + 1) p) (b : nb (n + 1) q) : bs r ≤ n + 1 := by
  have := Fr.lw h a b
  rw [lw_T h e] at this
  exact fr_bs this
theorem den_ne (r : Rat) : (r.den : Int) ≠ 0 := by
  have := r.den_pos
  omega
theorem add_div (r s : Rat) : Rat.divInt (r.num * s.den + s.num * r.den) (r.den * s.den) = r + s := by
  conv => rhs; rw [← Rat.num_divInt_den r, ← Rat.num_divInt_den s, Rat.divInt_add_divInt _ _ (den_ne r) (den_ne s)]
theorem sub_div (r s : Rat) : Rat.divInt (r.num * s.den - s.num * r.den) (r.den * s.den) = r - s := by
  conv => rhs; rw [← Rat.num_divInt_den r, ← Rat.num_divInt_den s, Rat.divInt_sub_divInt _ _ (den_ne r) (den_ne s)]
theorem mul_div (r s : Rat) : Rat.divInt (r.num * s.num) (r.den * s.den) = r * s := by
  conv => rhs; rw [← Rat.num_divInt_den r, ← Rat.num_divInt_den s, Rat.divInt_mul_divInt]
theorem bs_add (r s : Rat) : bs (r + s) ≤ bs r + bs s + 1 := by
  have h := bs_fr r
  have k := bs_fr s
  refine bs_div (n := bs r + bs s) (mul_ne (den_ne r) (den_ne s)) (add_div r s) (nb_add (nb_mul h.a k.b) ?_) (nb_up (nb_mul h.b k.b) (by omega))
  rw [Nat.add_comm]
  exact nb_mul k.a h.b
theorem bs_sub (r s : Rat) : bs (r - s) ≤ bs r + bs s + 1 := by
  have h := bs_fr r
  have k := bs_fr s
  refine bs_div (n := bs r + bs s) (mul_ne (den_ne r) (den_ne s)) (sub_div r s) (nb_sub (nb_mul h.a k.b) ?_) (nb_up (nb_mul h.b k.b) (by omega))
  rw [Nat.add_comm]
  exact nb_mul k.a h.b
theorem bs_mul (r s : Rat) : bs (r * s) ≤ bs r + bs s := by
  have h := bs_fr r
  have k := bs_fr s
  have h1 := bs1 r
  obtain ⟨n, hn⟩ : ∃ n, bs r + bs s = n + 1 := ⟨bs r + bs s - 1, by omega⟩
  rw [hn]
  refine bs_div (n := n) (mul_ne (den_ne r) (den_ne s)) (mul_div r s) ?_ ?_
  · rw [← hn]; exact nb_mul h.a k.a
  · rw [← hn]; exact nb_mul h.b k.b
theorem bs_neg (r : Rat) : bs (-r) = bs r := by
  unfold bs
  rw [Rat.neg_num, Rat.neg_den, Int.natAbs_neg]
theorem plusW {r s : Rat} (h : bs r ≤ 3000) (k : bs s ≤ 3000) : M_plus [W r, W s] = .ok (false, W (r + s)) := by
  have := plus_ok ((bs_fr r).up h) ((bs_fr s).up k) (by decide)
  unfold W
  rw [this, lw_T (mul_ne (den_ne r) (den_ne s)) (add_div r s)]
theorem minusW {r s : Rat} (h : bs r ≤ 3000) (k : bs s ≤ 3000) : M_minus [W r, W s] = .ok (false, W (r - s)) := by
  have := minus_ok ((bs_fr r).up h) ((bs_fr s).up k) (by decide)
  unfold W
  rw [this, lw_T (mul_ne (den_ne r) (den_ne s)) (sub_div r s)]
theorem timesW {r s : Rat} (h : bs r ≤ 3000) (k : bs s ≤ 3000) : M_times [W r, W s] = .ok (false, W (r * s)) := by
  have := times_ok ((bs_fr r).up h) ((bs_fr s).up k) (by decide)
  unfold W
  rw [this, lw_T (mul_ne (den_ne r) (den_ne s)) (mul_div r s)]
theorem negativeW (r : Rat) : M_negative [W r] = .ok (false, W (-r)) := by
  unfold W
  rw [negative_ok, Rat.neg_num, Rat.neg_den]
theorem num_ne {r : Rat} (h : r ≠ 0) : r.num ≠ 0 := fun e => h (Rat.num_eq_zero.mp e)
theorem div_div (r s : Rat) : Rat.divInt (r.num * s.den) (r.den * s.num) = r / s := by
  rw [Rat.div_def]
  conv => rhs; rw [← Rat.num_divInt_den r, ← Rat.num_divInt_den s, Rat.inv_divInt, Rat.divInt_mul_divInt]
theorem bs_over (r s : Rat) (hs : s ≠ 0) : bs (r / s) ≤ bs r + bs s := by
  have h := bs_fr r
  have k := bs_fr s
  have h1 := bs1 r
  obtain ⟨n, hn⟩ : ∃ n, bs r + bs s = n + 1 := ⟨bs r + bs s - 1, by omega⟩
  rw [hn]
  refine bs_div (n := n) (mul_ne (den_ne r) (num_ne hs)) (div_div r s) ?_ ?_
  · rw [← hn]; exact nb_mul h.a k.b
  · rw [← hn]; exact nb_mul h.b k.a
end LawW

namespace LawW
open PySem L2 PM
theorem bA {r s : Rat} (h : bs r ≤ 2000) (k : bs s ≤ 2000) : nb 4000 ((r.den : Int) * s.den) := nb_up (nb_mul (bs_fr r).b (bs_fr s).b) (by omega)
theorem l_lessW {r s : Rat} (h : bs r ≤ 2000) (k : bs s ≤ 2000) : M__law_less [W r, W s] = .ok (false, W (r - s)) := by
  have e := lowest_ok (p := r.num * s.den - s.num * r.den) (mul_ne (den_ne r) (den_ne s)) (bA h k)
  rw [lw_T (mul_ne (den_ne r) (den_ne s)) (sub_div r s)] at e
  have a := bs_fr r
  have b := bs_fr s
  have m1 := mul_nb a.a b.b (by omega)
  have m2 := mul_nb b.a a.b (by omega)
  have m3 := mul_nb a.b b.b (by omega)
  dsimp only at m1 m2 m3
  unfold M__law_less S__law_less W T
  simp only [PM.tgT, PM.tgs, PM.callE, PM.runF, PM.initE, PM.seqS, PM.asgS, PM.tgS, PM.parS, PM.appS, PM.augS, PM.dropS, PM.retS, PM.retN, PM.retV, PM.ifS, PM.forS, PM.M.thenS, PM.M.bind, PM.M.lift, PM.ret, PM.cst, PM.var, PM.pvar, PM.pk, PM.bin, PM.asB, PM.truth, PM.tru, PM.tand, PM.tor, PM.tnot, PM.vand, PM.vor, PM.vnot, PM.iff, PM.sli, PM.ono, PM.oin, PM.acons, PM.anil, PM.cnil, PM.cval, PM.cvw, PM.lstE, PM.tupE, PM.blt, PM.isi, PM.una, PM.smE, PM.src, PM.rng1, PM.rng2, PM.skip, PM.brkS, PM.cntS, PM.tgN, PM.itemsD, PM.tyD, PM.Ty.sub, PM.addD, PM.addIA, PM.subD, PM.mulD, PM.mulID, PM.fdivD, PM.modD, PM.powD, PM.ltD, PM.leD, PM.gtD, PM.geD, PM.cmpD, PM.eqD, PM.neD, PM.ixD, PM.sliceD, PM.lenD, PM.intD, PM.strD, PM.listD, PM.tupD, PM.joinD, PM.rjustD, PM.negD, List.length_cons, List.length_nil, List.getElem?_cons_zero, List.getElem?_cons_succ, List.set_cons_zero, List.set_cons_succ, List.map_cons, List.map_nil, List.cons_append, List.nil_append, List.append_nil, List.replicate, List.length_map, List.length_append, if_true, if_false, ite_true, ite_false, reduceIte, Bool.false_eq_true, decide_eq_true_eq, Option.map_some, Option.map_none, Option.bind_some, Option.bind_none, Option.some.injEq, Option.join, List.isEmpty_cons, List.isEmpty_nil, List.all_cons, List.all_nil, PM.owned, PM.noLS, PM.noL, PM.noLs, Bool.or_true, Bool.true_or, Bool.or_false, Bool.false_or, Bool.and_true, Bool.true_and, Bool.and_false, Bool.false_and, Bool.not_true, Bool.not_false, List.isEmpty_map, PM.setS, PM.augIxS, PM.isD, PM.isNonD, PM.isBlD, PM.isNotD, PM.sumD, PM.allD, PM.anyD, PM.absD, PM.gcdD, PM.bitsD, PM.maxD, PM.minD, reduceCtorEq, decide_true, decide_false, eq_self, Nat.zero_add, Nat.reduceAdd, Nat.reduceSub, Nat.reduceLT, Nat.reduceEqDiff, at0, at1, m1, m2, m3, e]
  rfl
theorem W0 : W 0 = .tup [.int 0, .int 1] := rfl
theorem W1 : W 1 = .tup [.int 1, .int 1] := rfl
theorem Wm1 : W (-1) = .tup [.int (-1), .int 1] := rfl
theorem noW (r : Rat) : noL (W r) = true := rfl
/-- points and maps -/
theorem at6_0 {α : Type} (a b c d e f : α) : atI [a, b, c, d, e, f] (0 : Int) = some a := rfl
theorem at6_1 {α : Type} (a b c d e f : α) : atI [a, b, c, d, e, f] (1 : Int) = some b := rfl
theorem at6_2 {α : Type} (a b c d e f : α) : atI [a, b, c, d, e, f] (2 : Int) = some c := rfl
theorem at6_3 {α : Type} (a b c d e f : α) : atI [a, b, c, d, e, f] (3 : Int) = some d := rfl
theorem at6_4 {α : Type} (a b c d e f : α) : atI [a, b, c, d, e, f] (4 : Int) = some e := rfl
theorem at6_5 {α : Type} (a b c d e f : α) : atI [a, b, c, d, e, f] (5 : Int) = some f := rfl
abbrev P2 (x y : Rat) : D := .tup [W x, W y]
abbrev M6 (a b c d e f : Rat) : D := .tup [W a, W b, W c, W d, W e, W f]
end LawW

namespace LawW
open PySem L2 PM
/-- the numbers that the law draws from -/
structure Nums (n : Nat) (l : List Int) : Prop where
  len : l.length = n
  rng : ∀ x ∈ l, 0 ≤ x ∧ x < 1009
theorem Nums.at {n : Nat} {l : List Int} (h : Nums n l) {i : Int} (h0 : 0 ≤ i) (h1 : i < n) : ∃ x, atI (l.map D.int) i = some (.int x) ∧ 0 ≤ x ∧ x < 1009 := by
  have hi : i.toNat < l.length := by rw [h.len]; omega
  refine ⟨l[i.toNat], ?_, h.rng _ (List.getElem_mem hi)⟩
  rw [atI_int h0 (by rw [List.length_map, h.len]; omega), List.getElem?_map, List.getElem?_eq_getElem hi]
  rfl
theorem nums_loop : ∀ (ds : List D) (cell : Int) (acc : List Int) (x1 : Int) (x0 x2 x5 x6 : Option Slot), (∀ d ∈ ds, ∃ k : Int, d = .int k ∧ 0 ≤ k ∧ k < 1000) → 0 ≤ cell → 0 ≤ x1 → x1 < 1000 → acc.length + ds.length ≤ 1000 →
    ∃ cell' l x5' x6', forF (tgN 5) L1__law_numbers ds [x0, some (false, .int x1), x2, some (false, .int cell), some (true, .lst (acc.map D.int)), x5, x6] =
      .nx [x0, some (false, .int x1), x2, some (false, .int cell'), some (true, .lst ((acc ++ l).map D.int)), x5', x6'] ∧ l.length = ds.length ∧ ∀ x ∈ l, 0 ≤ x ∧ x < 1009
  | [], cell, acc, x1, x0, x2, x5, x6, _, _, _, _, _ => ⟨cell, [], x5, x6, by rw [for_nil, List.append_nil], rfl, by simp⟩
  | d :: ds, cell, acc, x1, x0, x2, x5, x6, hd, hc, h1, h2, hl => by
    obtain ⟨k, rfl, k0, k1⟩ := hd d List.mem_cons_self
    have hd' : ∀ d ∈ ds, ∃ k : Int, d = .int k ∧ 0 ≤ k ∧ k < 1000 := fun d h => hd d (List.mem_cons_of_mem _ h)
    have hsz : (acc.map D.int).length < sizeLine := by rw [sl_eq, List.length_map]; rw [List.length_cons] at hl; omega
    have hpw : (0 : Int) ≤ 18 ∧ (18 : Int) ≤ 1000000 ∧ (10 : Int).natAbs < 2 ^ 64 := by decide
    have hpv : (10 : Int) ^ (18 : Int).toNat = 1000000000000000000 := by decide
    have mk : ∀ (c' y : Int) (x6' : Option Slot), 0 ≤ c' → 0 ≤ y → y < 1009 → L1__law_numbers [x0, some (false, .int x1), x2, some (false, .int cell), some (true, .lst (acc.map D.int)), some (false, .int k), x6] =
        .nx [x0, some (false, .int x1), x2, some (false, .int c'), some (true, .lst ((acc ++ [y]).map D.int)), some (false, .int k), x6'] →
        ∃ cell' l x5' x6', forF (tgN 5) L1__law_numbers (.int k :: ds) [x0, some (false, .int x1), x2, some (false, .int cell), some (true, .lst (acc.map D.int)), x5, x6] =
      .nx [x0, some (false, .int x1), x2, some (false, .int cell'), some (true, .lst ((acc ++ l).map D.int)), x5', x6'] ∧ l.length = (D.int k :: ds).length ∧ ∀ x ∈ l, 0 ≤ x ∧ x < 1009 := fun c' y x6' hc' hy hy2 hb => by
      obtain ⟨cell', l, x5', x6'', e, e2, e3⟩ := nums_loop ds c' (acc ++ [y]) x1 x0 x2 (some (false, .int k)) x6' hd' hc' h1 h2 (by simp at hl ⊢; omega)
      refine ⟨cell', y :: l, x5', x6'', ?_, by rw [List.length_cons, List.length_cons, e2], fun x hx => ?_⟩
      · rw [for_go (ρ1 := [x0, some (false, .int x1), x2, some (false, .int cell), some (true, .lst (acc.map D.int)), some (false, .int k), x6]) rfl hb, e, List.append_assoc]
        rfl
      · rcases List.mem_cons.mp hx with rfl | hx
        · exact ⟨hy, hy2⟩
        · exact e3 x hx
    by_cases hb : (1000000000000000000 : Int) ≤ cell
    · refine mk (cell / 1009) (cell % 1009) x6 (by omega) (by omega) (by omega) ?_
      have hsz2 : acc.length < sizeLine := by simpa using hsz
      simp only [L1__law_numbers, PM.tgT, PM.tgs, PM.callE, PM.runF, PM.initE, PM.seqS, PM.asgS, PM.tgS, PM.parS, PM.appS, PM.augS, PM.dropS, PM.retS, PM.retN, PM.retV, PM.ifS, PM.forS, PM.M.thenS, PM.M.bind, PM.M.lift, PM.ret, PM.cst, PM.var, PM.pvar, PM.pk, PM.bin, PM.asB, PM.truth, PM.tru, PM.tand, PM.tor, PM.tnot, PM.vand, PM.vor, PM.vnot, PM.iff, PM.sli, PM.ono, PM.oin, PM.acons, PM.anil, PM.cnil, PM.cval, PM.cvw, PM.lstE, PM.tupE, PM.blt, PM.isi, PM.una, PM.smE, PM.src, PM.rng1, PM.rng2, PM.skip, PM.brkS, PM.cntS, PM.tgN, PM.itemsD, PM.tyD, PM.Ty.sub, PM.addD, PM.addIA, PM.subD, PM.mulD, PM.mulID, PM.fdivD, PM.modD, PM.powD, PM.ltD, PM.leD, PM.gtD, PM.geD, PM.cmpD, PM.eqD, PM.neD, PM.ixD, PM.sliceD, PM.lenD, PM.intD, PM.strD, PM.listD, PM.tupD, PM.joinD, PM.rjustD, PM.negD, List.length_cons, List.length_nil, List.getElem?_cons_zero, List.getElem?_cons_succ, List.set_cons_zero, List.set_cons_succ, List.map_cons, List.map_nil, List.cons_append, List.nil_append, List.append_nil, List.replicate, List.length_map, List.length_append, if_true, if_false, ite_true, ite_false, reduceIte, Bool.false_eq_true, decide_eq_true_eq, Option.map_some, Option.map_none, Option.bind_some, Option.bind_none, Option.some.injEq, Option.join, List.isEmpty_cons, List.isEmpty_nil, List.all_cons, List.all_nil, PM.owned, PM.noLS, PM.noL, PM.noLs, Bool.or_true, Bool.true_or, Bool.or_false, Bool.false_or, Bool.and_true, Bool.true_and, Bool.and_false, Bool.false_and, Bool.not_true, Bool.not_false, List.isEmpty_map, PM.setS, PM.augIxS, PM.isD, PM.isNonD, PM.isBlD, PM.isNotD, PM.sumD, PM.allD, PM.anyD, PM.absD, PM.gcdD, PM.bitsD, PM.maxD, PM.minD, reduceCtorEq, decide_true, decide_false, eq_self, Nat.zero_add, Nat.reduceAdd, Nat.reduceSub, Nat.reduceLT, Nat.reduceEqDiff, hpw, hpv, decide_eq_true hb, show (0 : Int) < 1009 by decide, show (1009 : Int).natAbs.log2 < 9000 by decide, and_self, hsz2, List.map_append]
    · have hsz2 : acc.length < sizeLine := by simpa using hsz
      have m1 : mulOk cell 48271 = true := mulOk_r (by decide) (by decide)
      have m2 : mulOk (k + 1) 69621 = true := mulOk_r (by decide) (by decide)
      have m3 : mulOk x1 4001 = true := mulOk_r (by decide) (by decide)
      have m5 : mulOk 16807 (k + 3) = true := mulOk_l (by decide) (by decide)
      have p1 := Int.emod_nonneg (cell * 48271 + (k + 1) * 69621 + x1 * 4001) (show (2147483647 : Int) ≠ 0 by decide)
      have p2 := Int.emod_lt_of_pos (cell * 48271 + (k + 1) * 69621 + x1 * 4001) (show (0 : Int) < 2147483647 by decide)
      generalize hm : (cell * 48271 + (k + 1) * 69621 + x1 * 4001) % 2147483647 = mm at p1 p2
      have m4 : mulOk mm mm = true := mulOk_l (by omega) (by omega)
      have p3 := Int.emod_nonneg (mm * mm + 16807 * (k + 3)) (show (2147483629 : Int) ≠ 0 by decide)
      generalize hq : (mm * mm + 16807 * (k + 3)) % 2147483629 = qq at p3
      refine mk cell (qq / 7 % 1009) (some (false, .int qq)) hc (by omega) (by omega) ?_
      simp only [L1__law_numbers, PM.tgT, PM.tgs, PM.callE, PM.runF, PM.initE, PM.seqS, PM.asgS, PM.tgS, PM.parS, PM.appS, PM.augS, PM.dropS, PM.retS, PM.retN, PM.retV, PM.ifS, PM.forS, PM.M.thenS, PM.M.bind, PM.M.lift, PM.ret, PM.cst, PM.var, PM.pvar, PM.pk, PM.bin, PM.asB, PM.truth, PM.tru, PM.tand, PM.tor, PM.tnot, PM.vand, PM.vor, PM.vnot, PM.iff, PM.sli, PM.ono, PM.oin, PM.acons, PM.anil, PM.cnil, PM.cval, PM.cvw, PM.lstE, PM.tupE, PM.blt, PM.isi, PM.una, PM.smE, PM.src, PM.rng1, PM.rng2, PM.skip, PM.brkS, PM.cntS, PM.tgN, PM.itemsD, PM.tyD, PM.Ty.sub, PM.addD, PM.addIA, PM.subD, PM.mulD, PM.mulID, PM.fdivD, PM.modD, PM.powD, PM.ltD, PM.leD, PM.gtD, PM.geD, PM.cmpD, PM.eqD, PM.neD, PM.ixD, PM.sliceD, PM.lenD, PM.intD, PM.strD, PM.listD, PM.tupD, PM.joinD, PM.rjustD, PM.negD, List.length_cons, List.length_nil, List.getElem?_cons_zero, List.getElem?_cons_succ, List.set_cons_zero, List.set_cons_succ, List.map_cons, List.map_nil, List.cons_append, List.nil_append, List.append_nil, List.replicate, List.length_map, List.length_append, if_true, if_false, ite_true, ite_false, reduceIte, Bool.false_eq_true, decide_eq_true_eq, Option.map_some, Option.map_none, Option.bind_some, Option.bind_none, Option.some.injEq, Option.join, List.isEmpty_cons, List.isEmpty_nil, List.all_cons, List.all_nil, PM.owned, PM.noLS, PM.noL, PM.noLs, Bool.or_true, Bool.true_or, Bool.or_false, Bool.false_or, Bool.and_true, Bool.true_and, Bool.and_false, Bool.false_and, Bool.not_true, Bool.not_false, List.isEmpty_map, PM.setS, PM.augIxS, PM.isD, PM.isNonD, PM.isBlD, PM.isNotD, PM.sumD, PM.allD, PM.anyD, PM.absD, PM.gcdD, PM.bitsD, PM.maxD, PM.minD, reduceCtorEq, decide_true, decide_false, eq_self, Nat.zero_add, Nat.reduceAdd, Nat.reduceSub, Nat.reduceLT, Nat.reduceEqDiff, hpw, hpv, decide_eq_false hb, m1, m2, m3, m5, hm, m4, hq, show (0 : Int) < 1009 by decide, show (0 : Int) < 2147483647 by decide, show (0 : Int) < 2147483629 by decide, show (0 : Int) < 7 by decide, show (7 : Int).natAbs.log2 < 9000 by decide, and_self, hsz2, List.map_append]
theorem intsR_in {n : Nat} (h : n ≤ 1000) : ∀ d ∈ intsR 0 n, ∃ k : Int, d = .int k ∧ 0 ≤ k ∧ k < 1000 := fun d hd => by
  unfold intsR at hd
  obtain ⟨i, hi, rfl⟩ := List.mem_map.mp hd
  have := List.mem_range.mp hi
  exact ⟨_, rfl, by omega, by omega⟩
theorem numbers_ok (ns : List Int) (hl : ns.length ≤ 63) {a c : Int} {n : Nat} (h0 : 0 ≤ a) (h1 : a < 1000) (hc : c.toNat = n) (c0 : 0 ≤ c) (c1 : c ≤ 1000) : ∃ l, Nums n l ∧ M__law_numbers [scr ns, .int a, .int c] = .ok (true, .lst (l.map D.int)) := by
  subst hc
  have hlen : (intsR 0 c.toNat).length = c.toNat := by unfold intsR; simp
  have fin : ∀ cell : Int, 0 ≤ cell → ∃ l cell' x5 x6, Nums c.toNat l ∧ forF (tgN 5) L1__law_numbers (intsR 0 c.toNat) [some (false, .lst (ns.map D.int)), some (false, .int a), some (false, .int c), some (false, .int cell), some (true, .lst []), none, none] =
      .nx [some (false, .lst (ns.map D.int)), some (false, .int a), some (false, .int c), some (false, .int cell'), some (true, .lst (l.map D.int)), x5, x6] := fun cell hc => by
    obtain ⟨c', l, x5, x6, e, e2, e3⟩ := nums_loop (intsR 0 c.toNat) cell [] a (some (false, .lst (ns.map D.int))) (some (false, .int c)) none none (intsR_in (by omega)) hc h0 h1 (by rw [hlen]; simp; omega)
    exact ⟨l, c', x5, x6, ⟨by rw [e2, hlen], e3⟩, e⟩
  have hrg : -(2 ^ 62) ≤ c ∧ c < 2 ^ 62 := ⟨Int.le_trans (by decide) c0, Int.lt_of_le_of_lt c1 (by decide)⟩
  unfold M__law_numbers S__law_numbers
  have m1 : mulOk 1000003 (a + 1) = true := mulOk_l (by decide) (by decide)
  have mul2 : ∀ a : Int, mulOk 2 a = true := fun a => mulOk_l (by decide) (by decide)
  by_cases hb : a < (ns.length : Int)
  · have hat : ∃ c, atI (ns.map D.int) a = some (.int c) := by
      have hi : a.toNat < ns.length := by omega
      refine ⟨ns[a.toNat], ?_⟩
      rw [atI_int h0 (by rw [List.length_map]; omega), List.getElem?_map, List.getElem?_eq_getElem hi]
      rfl
    obtain ⟨c2, hat⟩ := hat
    by_cases hn : c2 < 0
    · obtain ⟨l, c', x5, x6, h, e⟩ := fin (1 - 2 * c2) (by omega)
      refine ⟨l, h, ?_⟩
      simp only [PM.tgT, PM.tgs, PM.callE, PM.runF, PM.initE, PM.seqS, PM.asgS, PM.tgS, PM.parS, PM.appS, PM.augS, PM.dropS, PM.retS, PM.retN, PM.retV, PM.ifS, PM.forS, PM.M.thenS, PM.M.bind, PM.M.lift, PM.ret, PM.cst, PM.var, PM.pvar, PM.pk, PM.bin, PM.asB, PM.truth, PM.tru, PM.tand, PM.tor, PM.tnot, PM.vand, PM.vor, PM.vnot, PM.iff, PM.sli, PM.ono, PM.oin, PM.acons, PM.anil, PM.cnil, PM.cval, PM.cvw, PM.lstE, PM.tupE, PM.blt, PM.isi, PM.una, PM.smE, PM.src, PM.rng1, PM.rng2, PM.skip, PM.brkS, PM.cntS, PM.tgN, PM.itemsD, PM.tyD, PM.Ty.sub, PM.addD, PM.addIA, PM.subD, PM.mulD, PM.mulID, PM.fdivD, PM.modD, PM.powD, PM.ltD, PM.leD, PM.gtD, PM.geD, PM.cmpD, PM.eqD, PM.neD, PM.ixD, PM.sliceD, PM.lenD, PM.intD, PM.strD, PM.listD, PM.tupD, PM.joinD, PM.rjustD, PM.negD, List.length_cons, List.length_nil, List.getElem?_cons_zero, List.getElem?_cons_succ, List.set_cons_zero, List.set_cons_succ, List.map_cons, List.map_nil, List.cons_append, List.nil_append, List.append_nil, List.replicate, List.length_map, List.length_append, if_true, if_false, ite_true, ite_false, reduceIte, Bool.false_eq_true, decide_eq_true_eq, Option.map_some, Option.map_none, Option.bind_some, Option.bind_none, Option.some.injEq, Option.join, List.isEmpty_cons, List.isEmpty_nil, List.all_cons, List.all_nil, PM.owned, PM.noLS, PM.noL, PM.noLs, Bool.or_true, Bool.true_or, Bool.or_false, Bool.false_or, Bool.and_true, Bool.true_and, Bool.and_false, Bool.false_and, Bool.not_true, Bool.not_false, List.isEmpty_map, PM.setS, PM.augIxS, PM.isD, PM.isNonD, PM.isBlD, PM.isNotD, PM.sumD, PM.allD, PM.anyD, PM.absD, PM.gcdD, PM.bitsD, PM.maxD, PM.minD, reduceCtorEq, decide_true, decide_false, eq_self, Nat.zero_add, Nat.reduceAdd, Nat.reduceSub, Nat.reduceLT, Nat.reduceEqDiff, scr, m1, decide_eq_true hb, hat, decide_eq_true hn, mul2, show 0 ≤ sizeLine by decide, hrg, and_self, e]
    · obtain ⟨l, c', x5, x6, h, e⟩ := fin c2 (by omega)
      refine ⟨l, h, ?_⟩
      simp only [PM.tgT, PM.tgs, PM.callE, PM.runF, PM.initE, PM.seqS, PM.asgS, PM.tgS, PM.parS, PM.appS, PM.augS, PM.dropS, PM.retS, PM.retN, PM.retV, PM.ifS, PM.forS, PM.M.thenS, PM.M.bind, PM.M.lift, PM.ret, PM.cst, PM.var, PM.pvar, PM.pk, PM.bin, PM.asB, PM.truth, PM.tru, PM.tand, PM.tor, PM.tnot, PM.vand, PM.vor, PM.vnot, PM.iff, PM.sli, PM.ono, PM.oin, PM.acons, PM.anil, PM.cnil, PM.cval, PM.cvw, PM.lstE, PM.tupE, PM.blt, PM.isi, PM.una, PM.smE, PM.src, PM.rng1, PM.rng2, PM.skip, PM.brkS, PM.cntS, PM.tgN, PM.itemsD, PM.tyD, PM.Ty.sub, PM.addD, PM.addIA, PM.subD, PM.mulD, PM.mulID, PM.fdivD, PM.modD, PM.powD, PM.ltD, PM.leD, PM.gtD, PM.geD, PM.cmpD, PM.eqD, PM.neD, PM.ixD, PM.sliceD, PM.lenD, PM.intD, PM.strD, PM.listD, PM.tupD, PM.joinD, PM.rjustD, PM.negD, List.length_cons, List.length_nil, List.getElem?_cons_zero, List.getElem?_cons_succ, List.set_cons_zero, List.set_cons_succ, List.map_cons, List.map_nil, List.cons_append, List.nil_append, List.append_nil, List.replicate, List.length_map, List.length_append, if_true, if_false, ite_true, ite_false, reduceIte, Bool.false_eq_true, decide_eq_true_eq, Option.map_some, Option.map_none, Option.bind_some, Option.bind_none, Option.some.injEq, Option.join, List.isEmpty_cons, List.isEmpty_nil, List.all_cons, List.all_nil, PM.owned, PM.noLS, PM.noL, PM.noLs, Bool.or_true, Bool.true_or, Bool.or_false, Bool.false_or, Bool.and_true, Bool.true_and, Bool.and_false, Bool.false_and, Bool.not_true, Bool.not_false, List.isEmpty_map, PM.setS, PM.augIxS, PM.isD, PM.isNonD, PM.isBlD, PM.isNotD, PM.sumD, PM.allD, PM.anyD, PM.absD, PM.gcdD, PM.bitsD, PM.maxD, PM.minD, reduceCtorEq, decide_true, decide_false, eq_self, Nat.zero_add, Nat.reduceAdd, Nat.reduceSub, Nat.reduceLT, Nat.reduceEqDiff, scr, m1, decide_eq_true hb, hat, decide_eq_false hn, show 0 ≤ sizeLine by decide, hrg, and_self, e]
  · obtain ⟨l, c', x5, x6, h, e⟩ := fin (1000003 * (a + 1)) (by omega)
    refine ⟨l, h, ?_⟩
    simp only [PM.tgT, PM.tgs, PM.callE, PM.runF, PM.initE, PM.seqS, PM.asgS, PM.tgS, PM.parS, PM.appS, PM.augS, PM.dropS, PM.retS, PM.retN, PM.retV, PM.ifS, PM.forS, PM.M.thenS, PM.M.bind, PM.M.lift, PM.ret, PM.cst, PM.var, PM.pvar, PM.pk, PM.bin, PM.asB, PM.truth, PM.tru, PM.tand, PM.tor, PM.tnot, PM.vand, PM.vor, PM.vnot, PM.iff, PM.sli, PM.ono, PM.oin, PM.acons, PM.anil, PM.cnil, PM.cval, PM.cvw, PM.lstE, PM.tupE, PM.blt, PM.isi, PM.una, PM.smE, PM.src, PM.rng1, PM.rng2, PM.skip, PM.brkS, PM.cntS, PM.tgN, PM.itemsD, PM.tyD, PM.Ty.sub, PM.addD, PM.addIA, PM.subD, PM.mulD, PM.mulID, PM.fdivD, PM.modD, PM.powD, PM.ltD, PM.leD, PM.gtD, PM.geD, PM.cmpD, PM.eqD, PM.neD, PM.ixD, PM.sliceD, PM.lenD, PM.intD, PM.strD, PM.listD, PM.tupD, PM.joinD, PM.rjustD, PM.negD, List.length_cons, List.length_nil, List.getElem?_cons_zero, List.getElem?_cons_succ, List.set_cons_zero, List.set_cons_succ, List.map_cons, List.map_nil, List.cons_append, List.nil_append, List.append_nil, List.replicate, List.length_map, List.length_append, if_true, if_false, ite_true, ite_false, reduceIte, Bool.false_eq_true, decide_eq_true_eq, Option.map_some, Option.map_none, Option.bind_some, Option.bind_none, Option.some.injEq, Option.join, List.isEmpty_cons, List.isEmpty_nil, List.all_cons, List.all_nil, PM.owned, PM.noLS, PM.noL, PM.noLs, Bool.or_true, Bool.true_or, Bool.or_false, Bool.false_or, Bool.and_true, Bool.true_and, Bool.and_false, Bool.false_and, Bool.not_true, Bool.not_false, List.isEmpty_map, PM.setS, PM.augIxS, PM.isD, PM.isNonD, PM.isBlD, PM.isNotD, PM.sumD, PM.allD, PM.anyD, PM.absD, PM.gcdD, PM.bitsD, PM.maxD, PM.minD, reduceCtorEq, decide_true, decide_false, eq_self, Nat.zero_add, Nat.reduceAdd, Nat.reduceSub, Nat.reduceLT, Nat.reduceEqDiff, scr, m1, decide_eq_false hb, decide_eq_false (show ¬ 1000003 * (a + 1) < 0 by omega), show 0 ≤ sizeLine by decide, hrg, and_self, e]
end LawW

namespace LawW
open PySem L2 PM
theorem sg_zero {r : Rat} : sg r.num = 0 ↔ r = 0 := by
  unfold sg
  constructor
  · intro h
    have : r.num = 0 := by
      split at h
      · cases h
      · split at h
        · cases h
        · omega
    exact Rat.num_eq_zero.mp this
  · intro h; subst h; rfl
theorem rpos {r : Rat} : 0 < r ↔ 0 < r.num := by rw [Rat.lt_iff]; simp
theorem rneg {r : Rat} : r < 0 ↔ r.num < 0 := by rw [Rat.lt_iff]; simp
theorem rlt1 {r : Rat} : r < 1 ↔ r.num < (r.den : Int) := by rw [Rat.lt_iff]; simp
theorem sg_pos {r : Rat} : 0 < sg r.num ↔ 0 < r := by
  rw [rpos]
  unfold sg
  split
  · simp [*]
  · split <;> simp [*]
theorem sg_neg {r : Rat} : sg r.num < 0 ↔ r < 0 := by
  rw [rneg]
  unfold sg
  split
  · rename_i h
    have : ¬ r.num < 0 := by omega
    simp [this]
  · split <;> simp [*]
theorem sign_W (r : Rat) : M_sign [W r] = .ok (false, .int (sg r.num)) := sign_ok _
theorem compare_W {r s : Rat} (h : bs r ≤ 3000) (k : bs s ≤ 3000) : M_compare [W r, W s] = .ok (false, .int (sg (r - s).num)) := by
  unfold M_compare S_compare
  simp (disch := (first | assumption | omega | grind [bs_add, bs_sub, bs_mul, bs_neg, bs_over])) only [PM.tgT, PM.tgs, PM.callE, PM.runF, PM.initE, PM.seqS, PM.asgS, PM.tgS, PM.parS, PM.appS, PM.augS, PM.dropS, PM.retS, PM.retN, PM.retV, PM.ifS, PM.forS, PM.M.thenS, PM.M.bind, PM.M.lift, PM.ret, PM.cst, PM.var, PM.pvar, PM.pk, PM.bin, PM.asB, PM.truth, PM.tru, PM.tand, PM.tor, PM.tnot, PM.vand, PM.vor, PM.vnot, PM.iff, PM.sli, PM.ono, PM.oin, PM.acons, PM.anil, PM.cnil, PM.cval, PM.cvw, PM.lstE, PM.tupE, PM.blt, PM.isi, PM.una, PM.smE, PM.src, PM.rng1, PM.rng2, PM.skip, PM.brkS, PM.cntS, PM.tgN, PM.itemsD, PM.tyD, PM.Ty.sub, PM.addD, PM.addIA, PM.subD, PM.mulD, PM.mulID, PM.fdivD, PM.modD, PM.powD, PM.ltD, PM.leD, PM.gtD, PM.geD, PM.cmpD, PM.eqD, PM.neD, PM.ixD, PM.sliceD, PM.lenD, PM.intD, PM.strD, PM.listD, PM.tupD, PM.joinD, PM.rjustD, PM.negD, List.length_cons, List.length_nil, List.getElem?_cons_zero, List.getElem?_cons_succ, List.set_cons_zero, List.set_cons_succ, List.map_cons, List.map_nil, List.cons_append, List.nil_append, List.append_nil, List.replicate, List.length_map, List.length_append, if_true, if_false, ite_true, ite_false, reduceIte, Bool.false_eq_true, decide_eq_true_eq, Option.map_some, Option.map_none, Option.bind_some, Option.bind_none, Option.some.injEq, Option.join, List.isEmpty_cons, List.isEmpty_nil, List.all_cons, List.all_nil, PM.owned, PM.noLS, PM.noL, PM.noLs, Bool.or_true, Bool.true_or, Bool.or_false, Bool.false_or, Bool.and_true, Bool.true_and, Bool.and_false, Bool.false_and, Bool.not_true, Bool.not_false, List.isEmpty_map, PM.setS, PM.augIxS, PM.isD, PM.isNonD, PM.isBlD, PM.isNotD, PM.sumD, PM.allD, PM.anyD, PM.absD, PM.gcdD, PM.bitsD, PM.maxD, PM.minD, reduceCtorEq, decide_true, decide_false, eq_self, Nat.zero_add, Nat.reduceAdd, Nat.reduceSub, Nat.reduceLT, Nat.reduceEqDiff, Int.reduceAdd, Int.reduceSub, Int.reduceMul, Int.cast_ofNat_Int, Int.reduceBNe, Int.reduceBEq, Int.reduceNe, Nat.reduceBEq, PySem.sizeLine_eq, Nat.reduceLeDiff, Nat.reduceMul, Nat.reducePow, Int.reduceLE, Int.reduceLT, Int.reduceNeg, Int.reducePow, Int.reduceEq, and_self, and_true, true_and, noW, minusW, sign_W]
theorem sign_l (n : Int) : M__law_sign [.int n] = .ok (false, .int (sg n)) := by
  unfold M__law_sign S__law_sign sg
  by_cases h1 : 0 < n <;> by_cases h2 : n < 0
  · omega
  all_goals simp only [PM.tgT, PM.tgs, PM.callE, PM.runF, PM.initE, PM.seqS, PM.asgS, PM.tgS, PM.parS, PM.appS, PM.augS, PM.dropS, PM.retS, PM.retN, PM.retV, PM.ifS, PM.forS, PM.M.thenS, PM.M.bind, PM.M.lift, PM.ret, PM.cst, PM.var, PM.pvar, PM.pk, PM.bin, PM.asB, PM.truth, PM.tru, PM.tand, PM.tor, PM.tnot, PM.vand, PM.vor, PM.vnot, PM.iff, PM.sli, PM.ono, PM.oin, PM.acons, PM.anil, PM.cnil, PM.cval, PM.cvw, PM.lstE, PM.tupE, PM.blt, PM.isi, PM.una, PM.smE, PM.src, PM.rng1, PM.rng2, PM.skip, PM.brkS, PM.cntS, PM.tgN, PM.itemsD, PM.tyD, PM.Ty.sub, PM.addD, PM.addIA, PM.subD, PM.mulD, PM.mulID, PM.fdivD, PM.modD, PM.powD, PM.ltD, PM.leD, PM.gtD, PM.geD, PM.cmpD, PM.eqD, PM.neD, PM.ixD, PM.sliceD, PM.lenD, PM.intD, PM.strD, PM.listD, PM.tupD, PM.joinD, PM.rjustD, PM.negD, List.length_cons, List.length_nil, List.getElem?_cons_zero, List.getElem?_cons_succ, List.set_cons_zero, List.set_cons_succ, List.map_cons, List.map_nil, List.cons_append, List.nil_append, List.append_nil, List.replicate, List.length_map, List.length_append, if_true, if_false, ite_true, ite_false, reduceIte, Bool.false_eq_true, decide_eq_true_eq, Option.map_some, Option.map_none, Option.bind_some, Option.bind_none, Option.some.injEq, Option.join, List.isEmpty_cons, List.isEmpty_nil, List.all_cons, List.all_nil, PM.owned, PM.noLS, PM.noL, PM.noLs, Bool.or_true, Bool.true_or, Bool.or_false, Bool.false_or, Bool.and_true, Bool.true_and, Bool.and_false, Bool.false_and, Bool.not_true, Bool.not_false, List.isEmpty_map, PM.setS, PM.augIxS, PM.isD, PM.isNonD, PM.isBlD, PM.isNotD, PM.sumD, PM.allD, PM.anyD, PM.absD, PM.gcdD, PM.bitsD, PM.maxD, PM.minD, reduceCtorEq, decide_true, decide_false, eq_self, Nat.zero_add, Nat.reduceAdd, Nat.reduceSub, Nat.reduceLT, Nat.reduceEqDiff, Int.reduceAdd, Int.reduceSub, Int.reduceMul, Int.cast_ofNat_Int, Int.reduceBNe, Int.reduceBEq, Int.reduceNe, Nat.reduceBEq, PySem.sizeLine_eq, Nat.reduceLeDiff, Nat.reduceMul, Nat.reducePow, Int.reduceLE, Int.reduceLT, Int.reduceNeg, Int.reducePow, Int.reduceEq, and_self, and_true, true_and, PM.lcE, PM.compF, PM.yes, PM.wipeE, PM.restE, PM.clean, PM.forF, PM.blsD, decide_eq_true_eq, List.all_cons, List.all_nil, id_eq, PM.cut, HT.sIx, L2.atI, L2.ixN, Int.reduceToNat, Nat.min_def, List.drop_succ_cons, List.drop_zero, List.drop_nil, List.take_nil, Nat.reduceSub, List.take_succ_cons, List.take_zero, Option.bind_some, Option.bind_none, and_false, false_and, Nat.reduceLT, PM.revD, PM.rev0D, List.reverse_cons, List.reverse_nil, h1, h2, decide_true, decide_false]
theorem pick_ok {l : List D} {k m x : Int} (h : atI l k = some (.int x)) (hm : 0 < m) (hl : m < 2000) : M__law_pick [.lst l, .int k, .int m] = .ok (false, .int (x % m)) := by
  have lg : m.natAbs.log2 < 9000 := by
    have : m.natAbs < 2 ^ 11 := by omega
    have := (Nat.log2_lt (by omega)).mpr this
    omega
  unfold M__law_pick S__law_pick
  simp only [PM.tgT, PM.tgs, PM.callE, PM.runF, PM.initE, PM.seqS, PM.asgS, PM.tgS, PM.parS, PM.appS, PM.augS, PM.dropS, PM.retS, PM.retN, PM.retV, PM.ifS, PM.forS, PM.M.thenS, PM.M.bind, PM.M.lift, PM.ret, PM.cst, PM.var, PM.pvar, PM.pk, PM.bin, PM.asB, PM.truth, PM.tru, PM.tand, PM.tor, PM.tnot, PM.vand, PM.vor, PM.vnot, PM.iff, PM.sli, PM.ono, PM.oin, PM.acons, PM.anil, PM.cnil, PM.cval, PM.cvw, PM.lstE, PM.tupE, PM.blt, PM.isi, PM.una, PM.smE, PM.src, PM.rng1, PM.rng2, PM.skip, PM.brkS, PM.cntS, PM.tgN, PM.itemsD, PM.tyD, PM.Ty.sub, PM.addD, PM.addIA, PM.subD, PM.mulD, PM.mulID, PM.fdivD, PM.modD, PM.powD, PM.ltD, PM.leD, PM.gtD, PM.geD, PM.cmpD, PM.eqD, PM.neD, PM.ixD, PM.sliceD, PM.lenD, PM.intD, PM.strD, PM.listD, PM.tupD, PM.joinD, PM.rjustD, PM.negD, List.length_cons, List.length_nil, List.getElem?_cons_zero, List.getElem?_cons_succ, List.set_cons_zero, List.set_cons_succ, List.map_cons, List.map_nil, List.cons_append, List.nil_append, List.append_nil, List.replicate, List.length_map, List.length_append, if_true, if_false, ite_true, ite_false, reduceIte, Bool.false_eq_true, decide_eq_true_eq, Option.map_some, Option.map_none, Option.bind_some, Option.bind_none, Option.some.injEq, Option.join, List.isEmpty_cons, List.isEmpty_nil, List.all_cons, List.all_nil, PM.owned, PM.noLS, PM.noL, PM.noLs, Bool.or_true, Bool.true_or, Bool.or_false, Bool.false_or, Bool.and_true, Bool.true_and, Bool.and_false, Bool.false_and, Bool.not_true, Bool.not_false, List.isEmpty_map, PM.setS, PM.augIxS, PM.isD, PM.isNonD, PM.isBlD, PM.isNotD, PM.sumD, PM.allD, PM.anyD, PM.absD, PM.gcdD, PM.bitsD, PM.maxD, PM.minD, reduceCtorEq, decide_true, decide_false, eq_self, Nat.zero_add, Nat.reduceAdd, Nat.reduceSub, Nat.reduceLT, Nat.reduceEqDiff, Int.reduceAdd, Int.reduceSub, Int.reduceMul, Int.cast_ofNat_Int, Int.reduceBNe, Int.reduceBEq, Int.reduceNe, Nat.reduceBEq, PySem.sizeLine_eq, Nat.reduceLeDiff, Nat.reduceMul, Nat.reducePow, Int.reduceLE, Int.reduceLT, Int.reduceNeg, Int.reducePow, Int.reduceEq, and_self, and_true, true_and, h, hm, lg]
theorem nlst (l : List Int) : noLs (l.map D.int) = true := by
  induction l with
  | nil => rfl
  | cons a l ih => rw [List.map_cons, noLs]; simp [noL, ih]
theorem frac {p q : Int} (n : Nat) (hq : 0 < q) (a : p.natAbs < 2 ^ (n + 1)) (b : q.natAbs < 2 ^ (n + 1)) (hn : n + 1 ≤ 4000) : ∃ r, r = (p : Rat) / (q : Rat) ∧ bs r ≤ n + 1 ∧ M__law_lowest [.int p, .int q] = .ok (false, W r) := by
  have hz : q ≠ 0 := by omega
  refine ⟨Rat.divInt p q, Rat.divInt_eq_div p q, bs_div hz rfl a b, ?_⟩
  rw [lowest_ok hz (nb_up b hn), lw_rat hz]
end LawW

namespace LawW
open PySem L2 PM
theorem p2s (j : Nat) : (2 : Int) ^ (j + 1) = 2 ^ j * 2 := Int.pow_succ 2 j
theorem p2p (j : Nat) : (0 : Int) < 2 ^ j := Int.pow_pos (by decide)
theorem mul_lg {x y : Int} (n : Nat) (hn : n ≤ 400000) (h : x.natAbs < 2 ^ n) (k : y.natAbs < 2 ^ n) : mulOk x y = true := mul_nb (n := n) (m := n) h k (by omega)
theorem p2abs (j : Nat) : ((2 : Int) ^ j).natAbs = 2 ^ j := by rw [Int.natAbs_pow]; rfl
theorem sq_lt {a b : Int} (ha : 0 ≤ a) (h : a * a < b * b) (hb : 0 ≤ b) : a < b := by
  rcases Int.lt_or_le a b with z | z
  · exact z
  · have := Int.mul_le_mul z z hb ha
    omega
theorem up_loop (n : Int) : ∀ (ds : List D) (j : Nat) (x2 x3 : Option Slot), n < 2 ^ (j + ds.length) * 2 ^ (j + ds.length) → j + ds.length ≤ 1000 →
    ∃ k x2', k ≤ j + ds.length ∧ n < 2 ^ k * 2 ^ k ∧ forF (tgN 2) L1__law_root ds [some (false, .int n), some (false, .int (2 ^ j)), x2, x3] = .nx [some (false, .int n), some (false, .int (2 ^ k)), x2', x3]
  | [], j, x2, x3, h, _ => ⟨j, x2, by simp, by simpa using h, rfl⟩
  | d :: ds, j, x2, x3, h, hj => by
    simp only [List.length_cons] at h hj
    have pl : ((2 : Int) ^ j).natAbs < 2 ^ 2000 := by rw [p2abs]; exact Nat.pow_lt_pow_right (by decide) (by omega)
    have m1 := mul_lg 2000 (by decide) pl pl
    have m2 : mulOk (2 ^ j) 2 = true := mul_lg 2000 (by decide) pl (Nat.lt_of_lt_of_le (show (2 : Int).natAbs < 2 ^ 2 by decide) (Nat.pow_le_pow_right (by decide) (by decide)))
    by_cases c : (2 : Int) ^ j * 2 ^ j ≤ n
    · obtain ⟨k, x2', k1, k2, e⟩ := up_loop n ds (j + 1) (some (false, d)) x3 (by rw [show j + 1 + ds.length = j + (ds.length + 1) by omega]; exact h) (by omega)
      refine ⟨k, x2', by simp only [List.length_cons]; omega, k2, ?_⟩
      rw [p2s] at e
      generalize (2 : Int) ^ j = B at *
      rw [for_go (ρ1 := [some (false, .int n), some (false, .int B), some (false, d), x3]) (ρ2 := [some (false, .int n), some (false, .int (B * 2)), some (false, d), x3]) rfl (by
        unfold L1__law_root
        simp only [PM.tgT, PM.tgs, PM.callE, PM.runF, PM.initE, PM.seqS, PM.asgS, PM.tgS, PM.parS, PM.appS, PM.augS, PM.dropS, PM.retS, PM.retN, PM.retV, PM.ifS, PM.forS, PM.M.thenS, PM.M.bind, PM.M.lift, PM.ret, PM.cst, PM.var, PM.pvar, PM.pk, PM.bin, PM.asB, PM.truth, PM.tru, PM.tand, PM.tor, PM.tnot, PM.vand, PM.vor, PM.vnot, PM.iff, PM.sli, PM.ono, PM.oin, PM.acons, PM.anil, PM.cnil, PM.cval, PM.cvw, PM.lstE, PM.tupE, PM.blt, PM.isi, PM.una, PM.smE, PM.src, PM.rng1, PM.rng2, PM.skip, PM.brkS, PM.cntS, PM.tgN, PM.itemsD, PM.tyD, PM.Ty.sub, PM.addD, PM.addIA, PM.subD, PM.mulD, PM.mulID, PM.fdivD, PM.modD, PM.powD, PM.ltD, PM.leD, PM.gtD, PM.geD, PM.cmpD, PM.eqD, PM.neD, PM.ixD, PM.sliceD, PM.lenD, PM.intD, PM.strD, PM.listD, PM.tupD, PM.joinD, PM.rjustD, PM.negD, List.length_cons, List.length_nil, List.getElem?_cons_zero, List.getElem?_cons_succ, List.set_cons_zero, List.set_cons_succ, List.map_cons, List.map_nil, List.cons_append, List.nil_append, List.append_nil, List.replicate, List.length_map, List.length_append, if_true, if_false, ite_true, ite_false, reduceIte, Bool.false_eq_true, decide_eq_true_eq, Option.map_some, Option.map_none, Option.bind_some, Option.bind_none, Option.some.injEq, Option.join, List.isEmpty_cons, List.isEmpty_nil, List.all_cons, List.all_nil, PM.owned, PM.noLS, PM.noL, PM.noLs, Bool.or_true, Bool.true_or, Bool.or_false, Bool.false_or, Bool.and_true, Bool.true_and, Bool.and_false, Bool.false_and, Bool.not_true, Bool.not_false, List.isEmpty_map, PM.setS, PM.augIxS, PM.isD, PM.isNonD, PM.isBlD, PM.isNotD, PM.sumD, PM.allD, PM.anyD, PM.absD, PM.gcdD, PM.bitsD, PM.maxD, PM.minD, reduceCtorEq, decide_true, decide_false, eq_self, Nat.zero_add, Nat.reduceAdd, Nat.reduceSub, Nat.reduceLT, Nat.reduceEqDiff, Int.reduceAdd, Int.reduceSub, Int.reduceMul, Int.cast_ofNat_Int, Int.reduceBNe, Int.reduceBEq, Int.reduceNe, Nat.reduceBEq, PySem.sizeLine_eq, Nat.reduceLeDiff, Nat.reduceMul, Nat.reducePow, Int.reduceLE, Int.reduceLT, Int.reduceNeg, Int.reducePow, Int.reduceEq, and_self, and_true, true_and, m1, m2, decide_eq_true c]), e]
    · have h2 : n < 2 ^ (j + ds.length) * 2 ^ (j + ds.length) := by
        have a : (2 : Int) ^ j ≤ 2 ^ (j + ds.length) := by
          rw [Int.pow_add]
          have := p2p ds.length
          have := Int.mul_le_mul_of_nonneg_left (show (1 : Int) ≤ 2 ^ ds.length by omega) (Int.le_of_lt (p2p j))
          omega
        have := Int.mul_le_mul a a (Int.le_of_lt (p2p j)) (Int.le_of_lt (p2p _))
        omega
      obtain ⟨k, x2', k1, k2, e⟩ := up_loop n ds j (some (false, d)) x3 h2 (by omega)
      refine ⟨k, x2', by simp only [List.length_cons]; omega, k2, ?_⟩
      generalize (2 : Int) ^ j = B at *
      rw [for_go (ρ1 := [some (false, .int n), some (false, .int B), some (false, d), x3]) (ρ2 := [some (false, .int n), some (false, .int B), some (false, d), x3]) rfl (by
        unfold L1__law_root
        simp only [PM.tgT, PM.tgs, PM.callE, PM.runF, PM.initE, PM.seqS, PM.asgS, PM.tgS, PM.parS, PM.appS, PM.augS, PM.dropS, PM.retS, PM.retN, PM.retV, PM.ifS, PM.forS, PM.M.thenS, PM.M.bind, PM.M.lift, PM.ret, PM.cst, PM.var, PM.pvar, PM.pk, PM.bin, PM.asB, PM.truth, PM.tru, PM.tand, PM.tor, PM.tnot, PM.vand, PM.vor, PM.vnot, PM.iff, PM.sli, PM.ono, PM.oin, PM.acons, PM.anil, PM.cnil, PM.cval, PM.cvw, PM.lstE, PM.tupE, PM.blt, PM.isi, PM.una, PM.smE, PM.src, PM.rng1, PM.rng2, PM.skip, PM.brkS, PM.cntS, PM.tgN, PM.itemsD, PM.tyD, PM.Ty.sub, PM.addD, PM.addIA, PM.subD, PM.mulD, PM.mulID, PM.fdivD, PM.modD, PM.powD, PM.ltD, PM.leD, PM.gtD, PM.geD, PM.cmpD, PM.eqD, PM.neD, PM.ixD, PM.sliceD, PM.lenD, PM.intD, PM.strD, PM.listD, PM.tupD, PM.joinD, PM.rjustD, PM.negD, List.length_cons, List.length_nil, List.getElem?_cons_zero, List.getElem?_cons_succ, List.set_cons_zero, List.set_cons_succ, List.map_cons, List.map_nil, List.cons_append, List.nil_append, List.append_nil, List.replicate, List.length_map, List.length_append, if_true, if_false, ite_true, ite_false, reduceIte, Bool.false_eq_true, decide_eq_true_eq, Option.map_some, Option.map_none, Option.bind_some, Option.bind_none, Option.some.injEq, Option.join, List.isEmpty_cons, List.isEmpty_nil, List.all_cons, List.all_nil, PM.owned, PM.noLS, PM.noL, PM.noLs, Bool.or_true, Bool.true_or, Bool.or_false, Bool.false_or, Bool.and_true, Bool.true_and, Bool.and_false, Bool.false_and, Bool.not_true, Bool.not_false, List.isEmpty_map, PM.setS, PM.augIxS, PM.isD, PM.isNonD, PM.isBlD, PM.isNotD, PM.sumD, PM.allD, PM.anyD, PM.absD, PM.gcdD, PM.bitsD, PM.maxD, PM.minD, reduceCtorEq, decide_true, decide_false, eq_self, Nat.zero_add, Nat.reduceAdd, Nat.reduceSub, Nat.reduceLT, Nat.reduceEqDiff, Int.reduceAdd, Int.reduceSub, Int.reduceMul, Int.cast_ofNat_Int, Int.reduceBNe, Int.reduceBEq, Int.reduceNe, Nat.reduceBEq, PySem.sizeLine_eq, Nat.reduceLeDiff, Nat.reduceMul, Nat.reducePow, Int.reduceLE, Int.reduceLT, Int.reduceNeg, Int.reducePow, Int.reduceEq, and_self, and_true, true_and, m1, decide_eq_false c]), e]
theorem dn_step (n low B : Int) (d : D) (x2 : Option Slot) (hl : low.natAbs < 2 ^ 1000) (hB : B.natAbs < 2 ^ 1000) :
    L2__law_root [some (false, .int n), some (false, .int B), some (false, d), some (false, .int low)] = .nx [some (false, .int n), some (false, .int (B / 2)), some (false, d), some (false, .int (if (low + B) * (low + B) ≤ n then low + B else low))] := by
  have hs : (low + B).natAbs < 2 ^ 1001 := nb_add hl hB
  have m1 := mul_lg 1001 (by decide) hs hs
  unfold L2__law_root
  by_cases c : (low + B) * (low + B) ≤ n
  · simp only [PM.tgT, PM.tgs, PM.callE, PM.runF, PM.initE, PM.seqS, PM.asgS, PM.tgS, PM.parS, PM.appS, PM.augS, PM.dropS, PM.retS, PM.retN, PM.retV, PM.ifS, PM.forS, PM.M.thenS, PM.M.bind, PM.M.lift, PM.ret, PM.cst, PM.var, PM.pvar, PM.pk, PM.bin, PM.asB, PM.truth, PM.tru, PM.tand, PM.tor, PM.tnot, PM.vand, PM.vor, PM.vnot, PM.iff, PM.sli, PM.ono, PM.oin, PM.acons, PM.anil, PM.cnil, PM.cval, PM.cvw, PM.lstE, PM.tupE, PM.blt, PM.isi, PM.una, PM.smE, PM.src, PM.rng1, PM.rng2, PM.skip, PM.brkS, PM.cntS, PM.tgN, PM.itemsD, PM.tyD, PM.Ty.sub, PM.addD, PM.addIA, PM.subD, PM.mulD, PM.mulID, PM.fdivD, PM.modD, PM.powD, PM.ltD, PM.leD, PM.gtD, PM.geD, PM.cmpD, PM.eqD, PM.neD, PM.ixD, PM.sliceD, PM.lenD, PM.intD, PM.strD, PM.listD, PM.tupD, PM.joinD, PM.rjustD, PM.negD, List.length_cons, List.length_nil, List.getElem?_cons_zero, List.getElem?_cons_succ, List.set_cons_zero, List.set_cons_succ, List.map_cons, List.map_nil, List.cons_append, List.nil_append, List.append_nil, List.replicate, List.length_map, List.length_append, if_true, if_false, ite_true, ite_false, reduceIte, Bool.false_eq_true, decide_eq_true_eq, Option.map_some, Option.map_none, Option.bind_some, Option.bind_none, Option.some.injEq, Option.join, List.isEmpty_cons, List.isEmpty_nil, List.all_cons, List.all_nil, PM.owned, PM.noLS, PM.noL, PM.noLs, Bool.or_true, Bool.true_or, Bool.or_false, Bool.false_or, Bool.and_true, Bool.true_and, Bool.and_false, Bool.false_and, Bool.not_true, Bool.not_false, List.isEmpty_map, PM.setS, PM.augIxS, PM.isD, PM.isNonD, PM.isBlD, PM.isNotD, PM.sumD, PM.allD, PM.anyD, PM.absD, PM.gcdD, PM.bitsD, PM.maxD, PM.minD, reduceCtorEq, decide_true, decide_false, eq_self, Nat.zero_add, Nat.reduceAdd, Nat.reduceSub, Nat.reduceLT, Nat.reduceEqDiff, Int.reduceAdd, Int.reduceSub, Int.reduceMul, Int.cast_ofNat_Int, Int.reduceBNe, Int.reduceBEq, Int.reduceNe, Nat.reduceBEq, PySem.sizeLine_eq, Nat.reduceLeDiff, Nat.reduceMul, Nat.reducePow, Int.reduceLE, Int.reduceLT, Int.reduceNeg, Int.reducePow, Int.reduceEq, and_self, and_true, true_and, m1, decide_eq_true c, if_pos c, show ((2 : Int).natAbs.log2 < 9000) by decide, show (0 : Int) < 2 by decide]
  · simp only [PM.tgT, PM.tgs, PM.callE, PM.runF, PM.initE, PM.seqS, PM.asgS, PM.tgS, PM.parS, PM.appS, PM.augS, PM.dropS, PM.retS, PM.retN, PM.retV, PM.ifS, PM.forS, PM.M.thenS, PM.M.bind, PM.M.lift, PM.ret, PM.cst, PM.var, PM.pvar, PM.pk, PM.bin, PM.asB, PM.truth, PM.tru, PM.tand, PM.tor, PM.tnot, PM.vand, PM.vor, PM.vnot, PM.iff, PM.sli, PM.ono, PM.oin, PM.acons, PM.anil, PM.cnil, PM.cval, PM.cvw, PM.lstE, PM.tupE, PM.blt, PM.isi, PM.una, PM.smE, PM.src, PM.rng1, PM.rng2, PM.skip, PM.brkS, PM.cntS, PM.tgN, PM.itemsD, PM.tyD, PM.Ty.sub, PM.addD, PM.addIA, PM.subD, PM.mulD, PM.mulID, PM.fdivD, PM.modD, PM.powD, PM.ltD, PM.leD, PM.gtD, PM.geD, PM.cmpD, PM.eqD, PM.neD, PM.ixD, PM.sliceD, PM.lenD, PM.intD, PM.strD, PM.listD, PM.tupD, PM.joinD, PM.rjustD, PM.negD, List.length_cons, List.length_nil, List.getElem?_cons_zero, List.getElem?_cons_succ, List.set_cons_zero, List.set_cons_succ, List.map_cons, List.map_nil, List.cons_append, List.nil_append, List.append_nil, List.replicate, List.length_map, List.length_append, if_true, if_false, ite_true, ite_false, reduceIte, Bool.false_eq_true, decide_eq_true_eq, Option.map_some, Option.map_none, Option.bind_some, Option.bind_none, Option.some.injEq, Option.join, List.isEmpty_cons, List.isEmpty_nil, List.all_cons, List.all_nil, PM.owned, PM.noLS, PM.noL, PM.noLs, Bool.or_true, Bool.true_or, Bool.or_false, Bool.false_or, Bool.and_true, Bool.true_and, Bool.and_false, Bool.false_and, Bool.not_true, Bool.not_false, List.isEmpty_map, PM.setS, PM.augIxS, PM.isD, PM.isNonD, PM.isBlD, PM.isNotD, PM.sumD, PM.allD, PM.anyD, PM.absD, PM.gcdD, PM.bitsD, PM.maxD, PM.minD, reduceCtorEq, decide_true, decide_false, eq_self, Nat.zero_add, Nat.reduceAdd, Nat.reduceSub, Nat.reduceLT, Nat.reduceEqDiff, Int.reduceAdd, Int.reduceSub, Int.reduceMul, Int.cast_ofNat_Int, Int.reduceBNe, Int.reduceBEq, Int.reduceNe, Nat.reduceBEq, PySem.sizeLine_eq, Nat.reduceLeDiff, Nat.reduceMul, Nat.reducePow, Int.reduceLE, Int.reduceLT, Int.reduceNeg, Int.reducePow, Int.reduceEq, and_self, and_true, true_and, m1, decide_eq_false c, if_neg c, show ((2 : Int).natAbs.log2 < 9000) by decide, show (0 : Int) < 2 by decide]
theorem dn_idle (n low : Int) (hl : low.natAbs < 2 ^ 1000) (h0 : low * low ≤ n) : ∀ (ds : List D) (x2 : Option Slot), ∃ x2', forF (tgN 2) L2__law_root ds [some (false, .int n), some (false, .int 0), x2, some (false, .int low)] = .nx [some (false, .int n), some (false, .int 0), x2', some (false, .int low)]
  | [], x2 => ⟨x2, rfl⟩
  | d :: ds, x2 => by
    obtain ⟨x2', e⟩ := dn_idle n low hl h0 ds (some (false, d))
    have s := dn_step n low 0 d x2 hl (by decide)
    have z : (0 : Int) / 2 = 0 := rfl
    rw [z, Int.add_zero, if_pos h0] at s
    exact ⟨x2', by rw [for_go (ρ1 := [some (false, .int n), some (false, .int 0), some (false, d), some (false, .int low)]) rfl s, e]⟩
theorem dn_loop (n : Int) (hn : n < 2 ^ 900 * 2 ^ 900) : ∀ (j : Nat) (ds : List D) (low : Int) (x2 : Option Slot), 0 ≤ low → low * low ≤ n → n < (low + 2 * 2 ^ j) * (low + 2 * 2 ^ j) → j < ds.length → j ≤ 900 →
    ∃ r x2', 0 ≤ r ∧ r * r ≤ n ∧ n < (r + 1) * (r + 1) ∧ forF (tgN 2) L2__law_root ds [some (false, .int n), some (false, .int (2 ^ j)), x2, some (false, .int low)] = .nx [some (false, .int n), some (false, .int 0), x2', some (false, .int r)] := by
  have bd : ∀ low : Int, 0 ≤ low → low * low ≤ n → low.natAbs < 2 ^ 1000 := fun low h0 h1 => by
    have := sq_lt h0 (Int.lt_of_le_of_lt h1 hn) (Int.le_of_lt (p2p 900))
    have h2 : low.natAbs < ((2 : Int) ^ 900).natAbs := by omega
    rw [p2abs] at h2
    exact Nat.lt_trans h2 (Nat.pow_lt_pow_right (by decide) (by decide))
  intro j
  induction j with
  | zero =>
    intro ds low x2 h0 h1 h2 hj _
    match ds, hj with
    | d :: ds, _ =>
      have s := dn_step n low (2 ^ 0) d x2 (bd low h0 h1) (by decide)
      have z : (2 : Int) ^ 0 / 2 = 0 := rfl
      have z1 : (2 : Int) ^ 0 = 1 := rfl
      rw [z, z1] at s
      rw [z1] at h2 ⊢
      by_cases c : (low + 1) * (low + 1) ≤ n
      · rw [if_pos c] at s
        obtain ⟨x2', e⟩ := dn_idle n (low + 1) (bd _ (by omega) c) c ds (some (false, d))
        refine ⟨low + 1, x2', by omega, c, ?_, by rw [for_go (ρ1 := [some (false, .int n), some (false, .int 1), some (false, d), some (false, .int low)]) rfl s, e]⟩
        rw [show low + 1 + 1 = low + 2 * 1 by omega]
        exact h2
      · rw [if_neg c] at s
        obtain ⟨x2', e⟩ := dn_idle n low (bd _ h0 h1) h1 ds (some (false, d))
        exact ⟨low, x2', h0, h1, by omega, by rw [for_go (ρ1 := [some (false, .int n), some (false, .int 1), some (false, d), some (false, .int low)]) rfl s, e]⟩
  | succ j ih =>
    intro ds low x2 h0 h1 h2 hj hj2
    match ds, hj with
    | d :: ds, hj =>
      simp only [List.length_cons] at hj
      have hB : ((2 : Int) ^ (j + 1)).natAbs < 2 ^ 1000 := by rw [p2abs]; exact Nat.pow_lt_pow_right (by decide) (by omega)
      have s := dn_step n low (2 ^ (j + 1)) d x2 (bd low h0 h1) hB
      have z : (2 : Int) ^ (j + 1) / 2 = 2 ^ j := by rw [p2s]; exact Int.mul_ediv_cancel _ (by decide)
      rw [z] at s
      have pp := p2p (j + 1)
      by_cases c : (low + 2 ^ (j + 1)) * (low + 2 ^ (j + 1)) ≤ n
      · rw [if_pos c] at s
        obtain ⟨r, x2', e1, e2, e3, e⟩ := ih ds (low + 2 ^ (j + 1)) (some (false, d)) (by omega) c (by
          rw [show low + 2 ^ (j + 1) + 2 * 2 ^ j = low + 2 * 2 ^ (j + 1) by rw [p2s]; omega]
          exact h2) (by omega) (by omega)
        exact ⟨r, x2', e1, e2, e3, by rw [for_go (ρ1 := [some (false, .int n), some (false, .int (2 ^ (j + 1))), some (false, d), some (false, .int low)]) rfl s, e]⟩
      · rw [if_neg c] at s
        obtain ⟨r, x2', e1, e2, e3, e⟩ := ih ds low (some (false, d)) h0 h1 (by
          rw [show low + 2 * 2 ^ j = low + 2 ^ (j + 1) by rw [p2s]; omega]
          omega) (by omega) (by omega)
        exact ⟨r, x2', e1, e2, e3, by rw [for_go (ρ1 := [some (false, .int n), some (false, .int (2 ^ (j + 1))), some (false, d), some (false, .int low)]) rfl s, e]⟩
theorem root_law {n : Int} (h0 : 0 ≤ n) (h : n < 2 ^ 320 * 2 ^ 320) : ∃ r, 0 ≤ r ∧ r * r ≤ n ∧ n < (r + 1) * (r + 1) ∧ M__law_root [.int n] = .ok (false, .int r) := by
  have l1 : (intsR 0 (Int.toNat 320)).length = 320 := by unfold intsR; rw [List.length_map, List.length_range]; rfl
  have l2 : (intsR 0 (Int.toNat 321)).length = 321 := by unfold intsR; rw [List.length_map, List.length_range]; rfl
  obtain ⟨k, x2, k1, k2, e1⟩ := up_loop n (intsR 0 (Int.toNat 320)) 0 none none (by rw [l1, Nat.zero_add]; exact h) (by rw [l1]; decide)
  rw [l1] at k1
  have pk := p2p k
  have big : n < 2 ^ 900 * 2 ^ 900 := Int.lt_trans h (by decide)
  obtain ⟨r, x2', r0, r1, r2, e2⟩ := dn_loop n big k (intsR 0 (Int.toNat 321)) 0 x2 (Int.le_refl 0) (by rw [Int.mul_zero]; exact h0) (by
    rw [Int.zero_add]
    have := Int.mul_le_mul (show (2 : Int) ^ k ≤ 2 * 2 ^ k by omega) (show (2 : Int) ^ k ≤ 2 * 2 ^ k by omega) (Int.le_of_lt pk) (by omega)
    omega) (by rw [l2]; omega) (by omega)
  refine ⟨r, r0, r1, r2, run_rt rfl ?_⟩
  have z1 : (2 : Int) ^ 0 = 1 := rfl
  rw [z1] at e1
  unfold S__law_root
  generalize (2 : Int) ^ k = P at *
  simp only [PM.tgT, PM.tgs, PM.callE, PM.runF, PM.initE, PM.seqS, PM.asgS, PM.tgS, PM.parS, PM.appS, PM.augS, PM.dropS, PM.retS, PM.retN, PM.retV, PM.ifS, PM.forS, PM.M.thenS, PM.M.bind, PM.M.lift, PM.ret, PM.cst, PM.var, PM.pvar, PM.pk, PM.bin, PM.asB, PM.truth, PM.tru, PM.tand, PM.tor, PM.tnot, PM.vand, PM.vor, PM.vnot, PM.iff, PM.sli, PM.ono, PM.oin, PM.acons, PM.anil, PM.cnil, PM.cval, PM.cvw, PM.lstE, PM.tupE, PM.blt, PM.isi, PM.una, PM.smE, PM.src, PM.rng1, PM.rng2, PM.skip, PM.brkS, PM.cntS, PM.tgN, PM.itemsD, PM.tyD, PM.Ty.sub, PM.addD, PM.addIA, PM.subD, PM.mulD, PM.mulID, PM.fdivD, PM.modD, PM.powD, PM.ltD, PM.leD, PM.gtD, PM.geD, PM.cmpD, PM.eqD, PM.neD, PM.ixD, PM.sliceD, PM.lenD, PM.intD, PM.strD, PM.listD, PM.tupD, PM.joinD, PM.rjustD, PM.negD, List.length_cons, List.length_nil, List.getElem?_cons_zero, List.getElem?_cons_succ, List.set_cons_zero, List.set_cons_succ, List.map_cons, List.map_nil, List.cons_append, List.nil_append, List.append_nil, List.replicate, List.length_map, List.length_append, if_true, if_false, ite_true, ite_false, reduceIte, Bool.false_eq_true, decide_eq_true_eq, Option.map_some, Option.map_none, Option.bind_some, Option.bind_none, Option.some.injEq, Option.join, List.isEmpty_cons, List.isEmpty_nil, List.all_cons, List.all_nil, PM.owned, PM.noLS, PM.noL, PM.noLs, Bool.or_true, Bool.true_or, Bool.or_false, Bool.false_or, Bool.and_true, Bool.true_and, Bool.and_false, Bool.false_and, Bool.not_true, Bool.not_false, List.isEmpty_map, PM.setS, PM.augIxS, PM.isD, PM.isNonD, PM.isBlD, PM.isNotD, PM.sumD, PM.allD, PM.anyD, PM.absD, PM.gcdD, PM.bitsD, PM.maxD, PM.minD, reduceCtorEq, decide_true, decide_false, eq_self, Nat.zero_add, Nat.reduceAdd, Nat.reduceSub, Nat.reduceLT, Nat.reduceEqDiff, Int.reduceAdd, Int.reduceSub, Int.reduceMul, Int.cast_ofNat_Int, Int.reduceBNe, Int.reduceBEq, Int.reduceNe, Nat.reduceBEq, PySem.sizeLine_eq, Nat.reduceLeDiff, Nat.reduceMul, Nat.reducePow, Int.reduceLE, Int.reduceLT, Int.reduceNeg, Int.reducePow, Int.reduceEq, and_self, and_true, true_and, e1, e2]
end LawW

namespace LawW
open PySem L2 PM
theorem sg3 (r : Rat) : (0 < r ∧ sg r.num = 1) ∨ (r < 0 ∧ sg r.num = -1) ∨ (r = 0 ∧ sg r.num = 0) := by
  rw [rpos, rneg, ← Rat.num_eq_zero]
  unfold sg
  by_cases h1 : 0 < r.num
  · exact .inl ⟨h1, by rw [if_pos h1]⟩
  · by_cases h2 : r.num < 0
    · exact .inr (.inl ⟨h2, by rw [if_neg h1, if_pos h2]⟩)
    · exact .inr (.inr ⟨by omega, by rw [if_neg h1, if_neg h2]⟩)
theorem sg_p {r : Rat} (h : 0 < r) : sg r.num = 1 := by
  rcases sg3 r with ⟨a, b⟩ | ⟨a, b⟩ | ⟨a, b⟩
  · exact b
  · exact absurd h (by grind)
  · exact absurd h (by grind)
theorem sg_n {r : Rat} (h : r < 0) : sg r.num = -1 := by
  rcases sg3 r with ⟨a, b⟩ | ⟨a, b⟩ | ⟨a, b⟩
  · exact absurd h (by grind)
  · exact b
  · exact absurd h (by grind)
theorem sg_0 {r : Rat} (h : r = 0) : sg r.num = 0 := by subst h; rfl
theorem sg_neg' (r : Rat) : sg (-r).num = -sg r.num := by
  rcases sg3 r with ⟨a, b⟩ | ⟨a, b⟩ | ⟨a, b⟩
  · rw [b, sg_n (by grind)]
  · rw [b, sg_p (by grind)]; rfl
  · rw [b, sg_0 (by grind)]; rfl
def sq (x : Rat) : Rat := if 0 ≤ x then x * x else -(x * x)
theorem mpos {a b : Rat} (h : 0 < a) (k : 0 < b) : 0 < a * b := Rat.mul_pos h k
theorem sq_p {x : Rat} (h : 0 < x) : 0 < sq x := by
  unfold sq
  rw [if_pos (by grind)]
  exact mpos h h
theorem sq_n {x : Rat} (h : x < 0) : sq x < 0 := by
  unfold sq
  rw [if_neg (by grind)]
  have := mpos (a := -x) (b := -x) (by grind) (by grind)
  grind
theorem sq_0 : sq 0 = 0 := by
  unfold sq
  rw [if_pos (Rat.le_refl)]
  exact Rat.zero_mul 0
theorem sg_sq (x : Rat) : sg (sq x).num = sg x.num := by
  rcases sg3 x with ⟨a, b⟩ | ⟨a, b⟩ | ⟨a, b⟩
  · rw [b, sg_p (sq_p a)]
  · rw [b, sg_n (sq_n a)]
  · rw [b, a, sq_0]; rfl
def SS (u v d : Rat) : Int := sg (sq u + sq v * d).num
theorem ss_0 {u v d : Rat} (h : v = 0 ∨ d = 0) : SS u v d = sg u.num := by
  unfold SS
  have : sq v * d = 0 := by
    rcases h with h | h
    · rw [h, sq_0, Rat.zero_mul]
    · rw [h, Rat.mul_zero]
  rw [this, Rat.add_zero, sg_sq]
theorem ss_pp {u v d : Rat} (hu : 0 ≤ u) (hv : 0 < v) (hd : 0 < d) : SS u v d = 1 := by
  unfold SS
  have := mpos (sq_p hv) hd
  have : 0 ≤ sq u := by
    rcases sg3 u with ⟨a, b⟩ | ⟨a, b⟩ | ⟨a, b⟩
    · have := sq_p a; grind
    · grind
    · rw [a, sq_0]; decide
  exact sg_p (by grind)
theorem ss_nn {u v d : Rat} (hu : u ≤ 0) (hv : v < 0) (hd : 0 < d) : SS u v d = -1 := by
  unfold SS
  have := mpos (a := -sq v) (b := d) (by have := sq_n hv; grind) hd
  have : sq u ≤ 0 := by
    rcases sg3 u with ⟨a, b⟩ | ⟨a, b⟩ | ⟨a, b⟩
    · grind
    · have := sq_n a; grind
    · rw [a, sq_0]; decide
  exact sg_n (by grind)
theorem ss_pn {u v d : Rat} (hu : 0 < u) (hv : v < 0) : SS u v d = sg (u * u - v * v * d).num := by
  unfold SS
  have : sq u + sq v * d = u * u - v * v * d := by
    unfold sq
    rw [if_pos (by grind), if_neg (by grind)]
    grind
  rw [this]
theorem ss_np {u v d : Rat} (hu : u < 0) (hv : 0 < v) : SS u v d = -sg (u * u - v * v * d).num := by
  unfold SS
  have : sq u + sq v * d = -(u * u - v * v * d) := by
    unfold sq
    rw [if_neg (by grind), if_pos (by grind)]
    grind
  rw [this, sg_neg']
theorem beside_ok {u v d : Rat} (hu : bs u ≤ 900) (hv : bs v ≤ 300) (hd : bs d ≤ 900) : M_sign_beside [W u, W v, W d] = .ok (false, .int (sg (u * u - v * v * d).num)) := by
  have b1 := bs_mul u u
  have b2 := bs_mul v v
  have b3 := bs_mul (v * v) d
  have t1 := timesW (r := u) (s := u) (by omega) (by omega)
  have t2 := timesW (r := v) (s := v) (by omega) (by omega)
  have t3 := timesW (r := v * v) (s := d) (by omega) (by omega)
  have t4 := compare_W (r := u * u) (s := v * v * d) (by omega) (by omega)
  unfold M_sign_beside S_sign_beside
  simp only [PM.tgT, PM.tgs, PM.callE, PM.runF, PM.initE, PM.seqS, PM.asgS, PM.tgS, PM.parS, PM.appS, PM.augS, PM.dropS, PM.retS, PM.retN, PM.retV, PM.ifS, PM.forS, PM.M.thenS, PM.M.bind, PM.M.lift, PM.ret, PM.cst, PM.var, PM.pvar, PM.pk, PM.bin, PM.asB, PM.truth, PM.tru, PM.tand, PM.tor, PM.tnot, PM.vand, PM.vor, PM.vnot, PM.iff, PM.sli, PM.ono, PM.oin, PM.acons, PM.anil, PM.cnil, PM.cval, PM.cvw, PM.lstE, PM.tupE, PM.blt, PM.isi, PM.una, PM.smE, PM.src, PM.rng1, PM.rng2, PM.skip, PM.brkS, PM.cntS, PM.tgN, PM.itemsD, PM.tyD, PM.Ty.sub, PM.addD, PM.addIA, PM.subD, PM.mulD, PM.mulID, PM.fdivD, PM.modD, PM.powD, PM.ltD, PM.leD, PM.gtD, PM.geD, PM.cmpD, PM.eqD, PM.neD, PM.ixD, PM.sliceD, PM.lenD, PM.intD, PM.strD, PM.listD, PM.tupD, PM.joinD, PM.rjustD, PM.negD, List.length_cons, List.length_nil, List.getElem?_cons_zero, List.getElem?_cons_succ, List.set_cons_zero, List.set_cons_succ, List.map_cons, List.map_nil, List.cons_append, List.nil_append, List.append_nil, List.replicate, List.length_map, List.length_append, if_true, if_false, ite_true, ite_false, reduceIte, Bool.false_eq_true, decide_eq_true_eq, Option.map_some, Option.map_none, Option.bind_some, Option.bind_none, Option.some.injEq, Option.join, List.isEmpty_cons, List.isEmpty_nil, List.all_cons, List.all_nil, PM.owned, PM.noLS, PM.noL, PM.noLs, Bool.or_true, Bool.true_or, Bool.or_false, Bool.false_or, Bool.and_true, Bool.true_and, Bool.and_false, Bool.false_and, Bool.not_true, Bool.not_false, List.isEmpty_map, PM.setS, PM.augIxS, PM.isD, PM.isNonD, PM.isBlD, PM.isNotD, PM.sumD, PM.allD, PM.anyD, PM.absD, PM.gcdD, PM.bitsD, PM.maxD, PM.minD, reduceCtorEq, decide_true, decide_false, eq_self, Nat.zero_add, Nat.reduceAdd, Nat.reduceSub, Nat.reduceLT, Nat.reduceEqDiff, Int.reduceAdd, Int.reduceSub, Int.reduceMul, Int.cast_ofNat_Int, Int.reduceBNe, Int.reduceBEq, Int.reduceNe, Nat.reduceBEq, PySem.sizeLine_eq, Nat.reduceLeDiff, Nat.reduceMul, Nat.reducePow, Int.reduceLE, Int.reduceLT, Int.reduceNeg, Int.reducePow, Int.reduceEq, and_self, and_true, true_and, t1, t2, t3, t4, noW]
theorem ss_prog {u v d : Rat} (hu : bs u ≤ 900) (hv : bs v ≤ 300) (hd : bs d ≤ 900) (h0 : 0 ≤ d) : M_sign_of_sum [W u, W v, W d] = .ok (false, .int (SS u v d)) := by
  have bb := beside_ok hu hv hd
  have bn := beside_ok (u := -u) (v := -v) (by rw [bs_neg]; exact hu) (by rw [bs_neg]; exact hv) hd
  have e : -u * -u - -v * -v * d = u * u - v * v * d := by grind
  rw [e] at bn
  have su := sign_W u
  have sv := sign_W v
  have sd := sign_W d
  have nu := negativeW u
  have nv := negativeW v
  have m1 : ∀ a b : Int, -2 < a → a < 2 → mulOk a b = true := fun a b h1 h2 => mulOk_l (by omega) (by omega)
  unfold M_sign_of_sum S_sign_of_sum
  rcases sg3 d with ⟨d1, d2⟩ | ⟨d1, d2⟩ | ⟨d1, d2⟩
  · rcases sg3 v with ⟨v1, v2⟩ | ⟨v1, v2⟩ | ⟨v1, v2⟩
    · have mm := m1 1 1 (by decide) (by decide)
      rcases sg3 u with ⟨u1, u2⟩ | ⟨u1, u2⟩ | ⟨u1, u2⟩
      · rw [ss_pp (by grind) v1 d1]
        simp only [PM.tgT, PM.tgs, PM.callE, PM.runF, PM.initE, PM.seqS, PM.asgS, PM.tgS, PM.parS, PM.appS, PM.augS, PM.dropS, PM.retS, PM.retN, PM.retV, PM.ifS, PM.forS, PM.M.thenS, PM.M.bind, PM.M.lift, PM.ret, PM.cst, PM.var, PM.pvar, PM.pk, PM.bin, PM.asB, PM.truth, PM.tru, PM.tand, PM.tor, PM.tnot, PM.vand, PM.vor, PM.vnot, PM.iff, PM.sli, PM.ono, PM.oin, PM.acons, PM.anil, PM.cnil, PM.cval, PM.cvw, PM.lstE, PM.tupE, PM.blt, PM.isi, PM.una, PM.smE, PM.src, PM.rng1, PM.rng2, PM.skip, PM.brkS, PM.cntS, PM.tgN, PM.itemsD, PM.tyD, PM.Ty.sub, PM.addD, PM.addIA, PM.subD, PM.mulD, PM.mulID, PM.fdivD, PM.modD, PM.powD, PM.ltD, PM.leD, PM.gtD, PM.geD, PM.cmpD, PM.eqD, PM.neD, PM.ixD, PM.sliceD, PM.lenD, PM.intD, PM.strD, PM.listD, PM.tupD, PM.joinD, PM.rjustD, PM.negD, List.length_cons, List.length_nil, List.getElem?_cons_zero, List.getElem?_cons_succ, List.set_cons_zero, List.set_cons_succ, List.map_cons, List.map_nil, List.cons_append, List.nil_append, List.append_nil, List.replicate, List.length_map, List.length_append, if_true, if_false, ite_true, ite_false, reduceIte, Bool.false_eq_true, decide_eq_true_eq, Option.map_some, Option.map_none, Option.bind_some, Option.bind_none, Option.some.injEq, Option.join, List.isEmpty_cons, List.isEmpty_nil, List.all_cons, List.all_nil, PM.owned, PM.noLS, PM.noL, PM.noLs, Bool.or_true, Bool.true_or, Bool.or_false, Bool.false_or, Bool.and_true, Bool.true_and, Bool.and_false, Bool.false_and, Bool.not_true, Bool.not_false, List.isEmpty_map, PM.setS, PM.augIxS, PM.isD, PM.isNonD, PM.isBlD, PM.isNotD, PM.sumD, PM.allD, PM.anyD, PM.absD, PM.gcdD, PM.bitsD, PM.maxD, PM.minD, reduceCtorEq, decide_true, decide_false, eq_self, Nat.zero_add, Nat.reduceAdd, Nat.reduceSub, Nat.reduceLT, Nat.reduceEqDiff, Int.reduceAdd, Int.reduceSub, Int.reduceMul, Int.cast_ofNat_Int, Int.reduceBNe, Int.reduceBEq, Int.reduceNe, Nat.reduceBEq, PySem.sizeLine_eq, Nat.reduceLeDiff, Nat.reduceMul, Nat.reducePow, Int.reduceLE, Int.reduceLT, Int.reduceNeg, Int.reducePow, Int.reduceEq, and_self, and_true, true_and, su, sv, sd, u2, v2, d2, mm, eqv_int, noW, decide_true, decide_false]
      · rw [ss_np u1 v1]
        simp only [PM.tgT, PM.tgs, PM.callE, PM.runF, PM.initE, PM.seqS, PM.asgS, PM.tgS, PM.parS, PM.appS, PM.augS, PM.dropS, PM.retS, PM.retN, PM.retV, PM.ifS, PM.forS, PM.M.thenS, PM.M.bind, PM.M.lift, PM.ret, PM.cst, PM.var, PM.pvar, PM.pk, PM.bin, PM.asB, PM.truth, PM.tru, PM.tand, PM.tor, PM.tnot, PM.vand, PM.vor, PM.vnot, PM.iff, PM.sli, PM.ono, PM.oin, PM.acons, PM.anil, PM.cnil, PM.cval, PM.cvw, PM.lstE, PM.tupE, PM.blt, PM.isi, PM.una, PM.smE, PM.src, PM.rng1, PM.rng2, PM.skip, PM.brkS, PM.cntS, PM.tgN, PM.itemsD, PM.tyD, PM.Ty.sub, PM.addD, PM.addIA, PM.subD, PM.mulD, PM.mulID, PM.fdivD, PM.modD, PM.powD, PM.ltD, PM.leD, PM.gtD, PM.geD, PM.cmpD, PM.eqD, PM.neD, PM.ixD, PM.sliceD, PM.lenD, PM.intD, PM.strD, PM.listD, PM.tupD, PM.joinD, PM.rjustD, PM.negD, List.length_cons, List.length_nil, List.getElem?_cons_zero, List.getElem?_cons_succ, List.set_cons_zero, List.set_cons_succ, List.map_cons, List.map_nil, List.cons_append, List.nil_append, List.append_nil, List.replicate, List.length_map, List.length_append, if_true, if_false, ite_true, ite_false, reduceIte, Bool.false_eq_true, decide_eq_true_eq, Option.map_some, Option.map_none, Option.bind_some, Option.bind_none, Option.some.injEq, Option.join, List.isEmpty_cons, List.isEmpty_nil, List.all_cons, List.all_nil, PM.owned, PM.noLS, PM.noL, PM.noLs, Bool.or_true, Bool.true_or, Bool.or_false, Bool.false_or, Bool.and_true, Bool.true_and, Bool.and_false, Bool.false_and, Bool.not_true, Bool.not_false, List.isEmpty_map, PM.setS, PM.augIxS, PM.isD, PM.isNonD, PM.isBlD, PM.isNotD, PM.sumD, PM.allD, PM.anyD, PM.absD, PM.gcdD, PM.bitsD, PM.maxD, PM.minD, reduceCtorEq, decide_true, decide_false, eq_self, Nat.zero_add, Nat.reduceAdd, Nat.reduceSub, Nat.reduceLT, Nat.reduceEqDiff, Int.reduceAdd, Int.reduceSub, Int.reduceMul, Int.cast_ofNat_Int, Int.reduceBNe, Int.reduceBEq, Int.reduceNe, Nat.reduceBEq, PySem.sizeLine_eq, Nat.reduceLeDiff, Nat.reduceMul, Nat.reducePow, Int.reduceLE, Int.reduceLT, Int.reduceNeg, Int.reducePow, Int.reduceEq, and_self, and_true, true_and, su, sv, sd, u2, v2, d2, mm, eqv_int, noW, nu, nv, bn, decide_true, decide_false]
      · rw [ss_pp (by grind) v1 d1]
        simp only [PM.tgT, PM.tgs, PM.callE, PM.runF, PM.initE, PM.seqS, PM.asgS, PM.tgS, PM.parS, PM.appS, PM.augS, PM.dropS, PM.retS, PM.retN, PM.retV, PM.ifS, PM.forS, PM.M.thenS, PM.M.bind, PM.M.lift, PM.ret, PM.cst, PM.var, PM.pvar, PM.pk, PM.bin, PM.asB, PM.truth, PM.tru, PM.tand, PM.tor, PM.tnot, PM.vand, PM.vor, PM.vnot, PM.iff, PM.sli, PM.ono, PM.oin, PM.acons, PM.anil, PM.cnil, PM.cval, PM.cvw, PM.lstE, PM.tupE, PM.blt, PM.isi, PM.una, PM.smE, PM.src, PM.rng1, PM.rng2, PM.skip, PM.brkS, PM.cntS, PM.tgN, PM.itemsD, PM.tyD, PM.Ty.sub, PM.addD, PM.addIA, PM.subD, PM.mulD, PM.mulID, PM.fdivD, PM.modD, PM.powD, PM.ltD, PM.leD, PM.gtD, PM.geD, PM.cmpD, PM.eqD, PM.neD, PM.ixD, PM.sliceD, PM.lenD, PM.intD, PM.strD, PM.listD, PM.tupD, PM.joinD, PM.rjustD, PM.negD, List.length_cons, List.length_nil, List.getElem?_cons_zero, List.getElem?_cons_succ, List.set_cons_zero, List.set_cons_succ, List.map_cons, List.map_nil, List.cons_append, List.nil_append, List.append_nil, List.replicate, List.length_map, List.length_append, if_true, if_false, ite_true, ite_false, reduceIte, Bool.false_eq_true, decide_eq_true_eq, Option.map_some, Option.map_none, Option.bind_some, Option.bind_none, Option.some.injEq, Option.join, List.isEmpty_cons, List.isEmpty_nil, List.all_cons, List.all_nil, PM.owned, PM.noLS, PM.noL, PM.noLs, Bool.or_true, Bool.true_or, Bool.or_false, Bool.false_or, Bool.and_true, Bool.true_and, Bool.and_false, Bool.false_and, Bool.not_true, Bool.not_false, List.isEmpty_map, PM.setS, PM.augIxS, PM.isD, PM.isNonD, PM.isBlD, PM.isNotD, PM.sumD, PM.allD, PM.anyD, PM.absD, PM.gcdD, PM.bitsD, PM.maxD, PM.minD, reduceCtorEq, decide_true, decide_false, eq_self, Nat.zero_add, Nat.reduceAdd, Nat.reduceSub, Nat.reduceLT, Nat.reduceEqDiff, Int.reduceAdd, Int.reduceSub, Int.reduceMul, Int.cast_ofNat_Int, Int.reduceBNe, Int.reduceBEq, Int.reduceNe, Nat.reduceBEq, PySem.sizeLine_eq, Nat.reduceLeDiff, Nat.reduceMul, Nat.reducePow, Int.reduceLE, Int.reduceLT, Int.reduceNeg, Int.reducePow, Int.reduceEq, and_self, and_true, true_and, su, sv, sd, u2, v2, d2, mm, eqv_int, noW, decide_true, decide_false]
    · have mm := m1 (-1) 1 (by decide) (by decide)
      rcases sg3 u with ⟨u1, u2⟩ | ⟨u1, u2⟩ | ⟨u1, u2⟩
      · rw [ss_pn u1 v1]
        simp only [PM.tgT, PM.tgs, PM.callE, PM.runF, PM.initE, PM.seqS, PM.asgS, PM.tgS, PM.parS, PM.appS, PM.augS, PM.dropS, PM.retS, PM.retN, PM.retV, PM.ifS, PM.forS, PM.M.thenS, PM.M.bind, PM.M.lift, PM.ret, PM.cst, PM.var, PM.pvar, PM.pk, PM.bin, PM.asB, PM.truth, PM.tru, PM.tand, PM.tor, PM.tnot, PM.vand, PM.vor, PM.vnot, PM.iff, PM.sli, PM.ono, PM.oin, PM.acons, PM.anil, PM.cnil, PM.cval, PM.cvw, PM.lstE, PM.tupE, PM.blt, PM.isi, PM.una, PM.smE, PM.src, PM.rng1, PM.rng2, PM.skip, PM.brkS, PM.cntS, PM.tgN, PM.itemsD, PM.tyD, PM.Ty.sub, PM.addD, PM.addIA, PM.subD, PM.mulD, PM.mulID, PM.fdivD, PM.modD, PM.powD, PM.ltD, PM.leD, PM.gtD, PM.geD, PM.cmpD, PM.eqD, PM.neD, PM.ixD, PM.sliceD, PM.lenD, PM.intD, PM.strD, PM.listD, PM.tupD, PM.joinD, PM.rjustD, PM.negD, List.length_cons, List.length_nil, List.getElem?_cons_zero, List.getElem?_cons_succ, List.set_cons_zero, List.set_cons_succ, List.map_cons, List.map_nil, List.cons_append, List.nil_append, List.append_nil, List.replicate, List.length_map, List.length_append, if_true, if_false, ite_true, ite_false, reduceIte, Bool.false_eq_true, decide_eq_true_eq, Option.map_some, Option.map_none, Option.bind_some, Option.bind_none, Option.some.injEq, Option.join, List.isEmpty_cons, List.isEmpty_nil, List.all_cons, List.all_nil, PM.owned, PM.noLS, PM.noL, PM.noLs, Bool.or_true, Bool.true_or, Bool.or_false, Bool.false_or, Bool.and_true, Bool.true_and, Bool.and_false, Bool.false_and, Bool.not_true, Bool.not_false, List.isEmpty_map, PM.setS, PM.augIxS, PM.isD, PM.isNonD, PM.isBlD, PM.isNotD, PM.sumD, PM.allD, PM.anyD, PM.absD, PM.gcdD, PM.bitsD, PM.maxD, PM.minD, reduceCtorEq, decide_true, decide_false, eq_self, Nat.zero_add, Nat.reduceAdd, Nat.reduceSub, Nat.reduceLT, Nat.reduceEqDiff, Int.reduceAdd, Int.reduceSub, Int.reduceMul, Int.cast_ofNat_Int, Int.reduceBNe, Int.reduceBEq, Int.reduceNe, Nat.reduceBEq, PySem.sizeLine_eq, Nat.reduceLeDiff, Nat.reduceMul, Nat.reducePow, Int.reduceLE, Int.reduceLT, Int.reduceNeg, Int.reducePow, Int.reduceEq, and_self, and_true, true_and, su, sv, sd, u2, v2, d2, mm, eqv_int, noW, bb, decide_true, decide_false]
      · rw [ss_nn (by grind) v1 d1]
        simp only [PM.tgT, PM.tgs, PM.callE, PM.runF, PM.initE, PM.seqS, PM.asgS, PM.tgS, PM.parS, PM.appS, PM.augS, PM.dropS, PM.retS, PM.retN, PM.retV, PM.ifS, PM.forS, PM.M.thenS, PM.M.bind, PM.M.lift, PM.ret, PM.cst, PM.var, PM.pvar, PM.pk, PM.bin, PM.asB, PM.truth, PM.tru, PM.tand, PM.tor, PM.tnot, PM.vand, PM.vor, PM.vnot, PM.iff, PM.sli, PM.ono, PM.oin, PM.acons, PM.anil, PM.cnil, PM.cval, PM.cvw, PM.lstE, PM.tupE, PM.blt, PM.isi, PM.una, PM.smE, PM.src, PM.rng1, PM.rng2, PM.skip, PM.brkS, PM.cntS, PM.tgN, PM.itemsD, PM.tyD, PM.Ty.sub, PM.addD, PM.addIA, PM.subD, PM.mulD, PM.mulID, PM.fdivD, PM.modD, PM.powD, PM.ltD, PM.leD, PM.gtD, PM.geD, PM.cmpD, PM.eqD, PM.neD, PM.ixD, PM.sliceD, PM.lenD, PM.intD, PM.strD, PM.listD, PM.tupD, PM.joinD, PM.rjustD, PM.negD, List.length_cons, List.length_nil, List.getElem?_cons_zero, List.getElem?_cons_succ, List.set_cons_zero, List.set_cons_succ, List.map_cons, List.map_nil, List.cons_append, List.nil_append, List.append_nil, List.replicate, List.length_map, List.length_append, if_true, if_false, ite_true, ite_false, reduceIte, Bool.false_eq_true, decide_eq_true_eq, Option.map_some, Option.map_none, Option.bind_some, Option.bind_none, Option.some.injEq, Option.join, List.isEmpty_cons, List.isEmpty_nil, List.all_cons, List.all_nil, PM.owned, PM.noLS, PM.noL, PM.noLs, Bool.or_true, Bool.true_or, Bool.or_false, Bool.false_or, Bool.and_true, Bool.true_and, Bool.and_false, Bool.false_and, Bool.not_true, Bool.not_false, List.isEmpty_map, PM.setS, PM.augIxS, PM.isD, PM.isNonD, PM.isBlD, PM.isNotD, PM.sumD, PM.allD, PM.anyD, PM.absD, PM.gcdD, PM.bitsD, PM.maxD, PM.minD, reduceCtorEq, decide_true, decide_false, eq_self, Nat.zero_add, Nat.reduceAdd, Nat.reduceSub, Nat.reduceLT, Nat.reduceEqDiff, Int.reduceAdd, Int.reduceSub, Int.reduceMul, Int.cast_ofNat_Int, Int.reduceBNe, Int.reduceBEq, Int.reduceNe, Nat.reduceBEq, PySem.sizeLine_eq, Nat.reduceLeDiff, Nat.reduceMul, Nat.reducePow, Int.reduceLE, Int.reduceLT, Int.reduceNeg, Int.reducePow, Int.reduceEq, and_self, and_true, true_and, su, sv, sd, u2, v2, d2, mm, eqv_int, noW, decide_true, decide_false]
      · rw [ss_nn (by grind) v1 d1]
        simp only [PM.tgT, PM.tgs, PM.callE, PM.runF, PM.initE, PM.seqS, PM.asgS, PM.tgS, PM.parS, PM.appS, PM.augS, PM.dropS, PM.retS, PM.retN, PM.retV, PM.ifS, PM.forS, PM.M.thenS, PM.M.bind, PM.M.lift, PM.ret, PM.cst, PM.var, PM.pvar, PM.pk, PM.bin, PM.asB, PM.truth, PM.tru, PM.tand, PM.tor, PM.tnot, PM.vand, PM.vor, PM.vnot, PM.iff, PM.sli, PM.ono, PM.oin, PM.acons, PM.anil, PM.cnil, PM.cval, PM.cvw, PM.lstE, PM.tupE, PM.blt, PM.isi, PM.una, PM.smE, PM.src, PM.rng1, PM.rng2, PM.skip, PM.brkS, PM.cntS, PM.tgN, PM.itemsD, PM.tyD, PM.Ty.sub, PM.addD, PM.addIA, PM.subD, PM.mulD, PM.mulID, PM.fdivD, PM.modD, PM.powD, PM.ltD, PM.leD, PM.gtD, PM.geD, PM.cmpD, PM.eqD, PM.neD, PM.ixD, PM.sliceD, PM.lenD, PM.intD, PM.strD, PM.listD, PM.tupD, PM.joinD, PM.rjustD, PM.negD, List.length_cons, List.length_nil, List.getElem?_cons_zero, List.getElem?_cons_succ, List.set_cons_zero, List.set_cons_succ, List.map_cons, List.map_nil, List.cons_append, List.nil_append, List.append_nil, List.replicate, List.length_map, List.length_append, if_true, if_false, ite_true, ite_false, reduceIte, Bool.false_eq_true, decide_eq_true_eq, Option.map_some, Option.map_none, Option.bind_some, Option.bind_none, Option.some.injEq, Option.join, List.isEmpty_cons, List.isEmpty_nil, List.all_cons, List.all_nil, PM.owned, PM.noLS, PM.noL, PM.noLs, Bool.or_true, Bool.true_or, Bool.or_false, Bool.false_or, Bool.and_true, Bool.true_and, Bool.and_false, Bool.false_and, Bool.not_true, Bool.not_false, List.isEmpty_map, PM.setS, PM.augIxS, PM.isD, PM.isNonD, PM.isBlD, PM.isNotD, PM.sumD, PM.allD, PM.anyD, PM.absD, PM.gcdD, PM.bitsD, PM.maxD, PM.minD, reduceCtorEq, decide_true, decide_false, eq_self, Nat.zero_add, Nat.reduceAdd, Nat.reduceSub, Nat.reduceLT, Nat.reduceEqDiff, Int.reduceAdd, Int.reduceSub, Int.reduceMul, Int.cast_ofNat_Int, Int.reduceBNe, Int.reduceBEq, Int.reduceNe, Nat.reduceBEq, PySem.sizeLine_eq, Nat.reduceLeDiff, Nat.reduceMul, Nat.reducePow, Int.reduceLE, Int.reduceLT, Int.reduceNeg, Int.reducePow, Int.reduceEq, and_self, and_true, true_and, su, sv, sd, u2, v2, d2, mm, eqv_int, noW, decide_true, decide_false]
    · have mm := m1 0 1 (by decide) (by decide)
      rw [ss_0 (.inl v1)]
      simp only [PM.tgT, PM.tgs, PM.callE, PM.runF, PM.initE, PM.seqS, PM.asgS, PM.tgS, PM.parS, PM.appS, PM.augS, PM.dropS, PM.retS, PM.retN, PM.retV, PM.ifS, PM.forS, PM.M.thenS, PM.M.bind, PM.M.lift, PM.ret, PM.cst, PM.var, PM.pvar, PM.pk, PM.bin, PM.asB, PM.truth, PM.tru, PM.tand, PM.tor, PM.tnot, PM.vand, PM.vor, PM.vnot, PM.iff, PM.sli, PM.ono, PM.oin, PM.acons, PM.anil, PM.cnil, PM.cval, PM.cvw, PM.lstE, PM.tupE, PM.blt, PM.isi, PM.una, PM.smE, PM.src, PM.rng1, PM.rng2, PM.skip, PM.brkS, PM.cntS, PM.tgN, PM.itemsD, PM.tyD, PM.Ty.sub, PM.addD, PM.addIA, PM.subD, PM.mulD, PM.mulID, PM.fdivD, PM.modD, PM.powD, PM.ltD, PM.leD, PM.gtD, PM.geD, PM.cmpD, PM.eqD, PM.neD, PM.ixD, PM.sliceD, PM.lenD, PM.intD, PM.strD, PM.listD, PM.tupD, PM.joinD, PM.rjustD, PM.negD, List.length_cons, List.length_nil, List.getElem?_cons_zero, List.getElem?_cons_succ, List.set_cons_zero, List.set_cons_succ, List.map_cons, List.map_nil, List.cons_append, List.nil_append, List.append_nil, List.replicate, List.length_map, List.length_append, if_true, if_false, ite_true, ite_false, reduceIte, Bool.false_eq_true, decide_eq_true_eq, Option.map_some, Option.map_none, Option.bind_some, Option.bind_none, Option.some.injEq, Option.join, List.isEmpty_cons, List.isEmpty_nil, List.all_cons, List.all_nil, PM.owned, PM.noLS, PM.noL, PM.noLs, Bool.or_true, Bool.true_or, Bool.or_false, Bool.false_or, Bool.and_true, Bool.true_and, Bool.and_false, Bool.false_and, Bool.not_true, Bool.not_false, List.isEmpty_map, PM.setS, PM.augIxS, PM.isD, PM.isNonD, PM.isBlD, PM.isNotD, PM.sumD, PM.allD, PM.anyD, PM.absD, PM.gcdD, PM.bitsD, PM.maxD, PM.minD, reduceCtorEq, decide_true, decide_false, eq_self, Nat.zero_add, Nat.reduceAdd, Nat.reduceSub, Nat.reduceLT, Nat.reduceEqDiff, Int.reduceAdd, Int.reduceSub, Int.reduceMul, Int.cast_ofNat_Int, Int.reduceBNe, Int.reduceBEq, Int.reduceNe, Nat.reduceBEq, PySem.sizeLine_eq, Nat.reduceLeDiff, Nat.reduceMul, Nat.reducePow, Int.reduceLE, Int.reduceLT, Int.reduceNeg, Int.reducePow, Int.reduceEq, and_self, and_true, true_and, su, sv, sd, v2, d2, mm, eqv_int, noW, decide_true, decide_false]
  · grind
  · have mm : mulOk (sg v.num) 0 = true := by
      rcases sg3 v with ⟨v1, v2⟩ | ⟨v1, v2⟩ | ⟨v1, v2⟩ <;> rw [v2] <;> decide
    rw [ss_0 (.inr d1)]
    simp only [PM.tgT, PM.tgs, PM.callE, PM.runF, PM.initE, PM.seqS, PM.asgS, PM.tgS, PM.parS, PM.appS, PM.augS, PM.dropS, PM.retS, PM.retN, PM.retV, PM.ifS, PM.forS, PM.M.thenS, PM.M.bind, PM.M.lift, PM.ret, PM.cst, PM.var, PM.pvar, PM.pk, PM.bin, PM.asB, PM.truth, PM.tru, PM.tand, PM.tor, PM.tnot, PM.vand, PM.vor, PM.vnot, PM.iff, PM.sli, PM.ono, PM.oin, PM.acons, PM.anil, PM.cnil, PM.cval, PM.cvw, PM.lstE, PM.tupE, PM.blt, PM.isi, PM.una, PM.smE, PM.src, PM.rng1, PM.rng2, PM.skip, PM.brkS, PM.cntS, PM.tgN, PM.itemsD, PM.tyD, PM.Ty.sub, PM.addD, PM.addIA, PM.subD, PM.mulD, PM.mulID, PM.fdivD, PM.modD, PM.powD, PM.ltD, PM.leD, PM.gtD, PM.geD, PM.cmpD, PM.eqD, PM.neD, PM.ixD, PM.sliceD, PM.lenD, PM.intD, PM.strD, PM.listD, PM.tupD, PM.joinD, PM.rjustD, PM.negD, List.length_cons, List.length_nil, List.getElem?_cons_zero, List.getElem?_cons_succ, List.set_cons_zero, List.set_cons_succ, List.map_cons, List.map_nil, List.cons_append, List.nil_append, List.append_nil, List.replicate, List.length_map, List.length_append, if_true, if_false, ite_true, ite_false, reduceIte, Bool.false_eq_true, decide_eq_true_eq, Option.map_some, Option.map_none, Option.bind_some, Option.bind_none, Option.some.injEq, Option.join, List.isEmpty_cons, List.isEmpty_nil, List.all_cons, List.all_nil, PM.owned, PM.noLS, PM.noL, PM.noLs, Bool.or_true, Bool.true_or, Bool.or_false, Bool.false_or, Bool.and_true, Bool.true_and, Bool.and_false, Bool.false_and, Bool.not_true, Bool.not_false, List.isEmpty_map, PM.setS, PM.augIxS, PM.isD, PM.isNonD, PM.isBlD, PM.isNotD, PM.sumD, PM.allD, PM.anyD, PM.absD, PM.gcdD, PM.bitsD, PM.maxD, PM.minD, reduceCtorEq, decide_true, decide_false, eq_self, Nat.zero_add, Nat.reduceAdd, Nat.reduceSub, Nat.reduceLT, Nat.reduceEqDiff, Int.reduceAdd, Int.reduceSub, Int.reduceMul, Int.cast_ofNat_Int, Int.reduceBNe, Int.reduceBEq, Int.reduceNe, Nat.reduceBEq, PySem.sizeLine_eq, Nat.reduceLeDiff, Nat.reduceMul, Nat.reducePow, Int.reduceLE, Int.reduceLT, Int.reduceNeg, Int.reducePow, Int.reduceEq, and_self, and_true, true_and, su, sv, sd, d2, mm, Int.mul_zero, eqv_int, noW, decide_true, decide_false]
theorem rat_fr (u : Rat) : u = (u.num : Rat) / (u.den : Rat) ∧ (u.den : Rat) ≠ 0 := by
  have hz : (u.den : Rat) ≠ 0 := by
    intro h
    have := u.den_nz
    exact this (by exact_mod_cast h)
  refine ⟨?_, hz⟩
  have := Rat.num_divInt_den u
  rw [Rat.divInt_eq_div] at this
  exact this.symm
theorem sg_div {p q : Int} {r : Rat} (hq : 0 < q) (e : r = (p : Rat) / (q : Rat)) : sg r.num = sg p := by
  have h := lw_T (p := p) (q := q) (r := r) (by omega) (by rw [Rat.divInt_eq_div]; exact e.symm)
  have := sg_lw (p := p) hq
  rw [h] at this
  exact this
theorem squares (u v d : Rat) : sg (u.num * u.num * v.den * v.den * d.den - v.num * v.num * d.num * u.den * u.den) = sg (u * u - v * v * d).num := by
  have pu := u.den_pos
  have pv := v.den_pos
  have pd := d.den_pos
  refine (sg_div (q := (u.den : Int) * u.den * (v.den * v.den) * d.den) ?_ ?_).symm
  · exact Int.mul_pos (Int.mul_pos (Int.mul_pos (by omega) (by omega)) (Int.mul_pos (by omega) (by omega))) (by omega)
  · obtain ⟨eu, zu⟩ := rat_fr u
    obtain ⟨ev, zv⟩ := rat_fr v
    obtain ⟨ed, zd⟩ := rat_fr d
    simp only [Rat.intCast_sub, Rat.intCast_mul, Rat.intCast_natCast]
    generalize (u.num : Rat) = a1 at *
    generalize (u.den : Rat) = a2 at *
    generalize (v.num : Rat) = b1 at *
    generalize (v.den : Rat) = b2 at *
    generalize (d.num : Rat) = c1 at *
    generalize (d.den : Rat) = c2 at *
    rw [eu, ev, ed]
    grind
theorem ss_law {u v d : Rat} (hu : bs u ≤ 900) (hv : bs v ≤ 300) (hd : bs d ≤ 900) (h0 : 0 ≤ d) : M__law_sum_sign [W u, W v, W d] = .ok (false, .int (SS u v d)) := by
  have sqs := squares u v d
  have fu := bs_fr u
  have fv := bs_fr v
  have fd := bs_fr d
  have k1 := nb_mul fu.a fu.a
  have k2 := nb_mul k1 fv.b
  have k3 := nb_mul k2 fv.b
  have j1 := nb_mul fv.a fv.a
  have j2 := nb_mul j1 fd.a
  have j3 := nb_mul j2 fu.b
  have m1 := mul_nb fu.a fu.a (by omega)
  have m2 := mul_nb k1 fv.b (by omega)
  have m3 := mul_nb k2 fv.b (by omega)
  have m4 := mul_nb k3 fd.b (by omega)
  have n1 := mul_nb fv.a fv.a (by omega)
  have n2 := mul_nb j1 fd.a (by omega)
  have n3 := mul_nb j2 fu.b (by omega)
  have n4 := mul_nb j3 fu.b (by omega)
  dsimp only at m1 m2 m3 m4 n1 n2 n3 n4
  have T6 : ∀ s3 s4 s5 : Option Slot, T6__law_sum_sign [some (false, W u), some (false, W v), some (false, W d), s3, s4, s5] = .nx [some (false, W u), some (false, W v), some (false, W d), s3, s4, some (false, .int (sg (u * u - v * v * d).num))] := fun s3 s4 s5 => by
    unfold T6__law_sum_sign W T
    simp only [PM.tgT, PM.tgs, PM.callE, PM.runF, PM.initE, PM.seqS, PM.asgS, PM.tgS, PM.parS, PM.appS, PM.augS, PM.dropS, PM.retS, PM.retN, PM.retV, PM.ifS, PM.forS, PM.M.thenS, PM.M.bind, PM.M.lift, PM.ret, PM.cst, PM.var, PM.pvar, PM.pk, PM.bin, PM.asB, PM.truth, PM.tru, PM.tand, PM.tor, PM.tnot, PM.vand, PM.vor, PM.vnot, PM.iff, PM.sli, PM.ono, PM.oin, PM.acons, PM.anil, PM.cnil, PM.cval, PM.cvw, PM.lstE, PM.tupE, PM.blt, PM.isi, PM.una, PM.smE, PM.src, PM.rng1, PM.rng2, PM.skip, PM.brkS, PM.cntS, PM.tgN, PM.itemsD, PM.tyD, PM.Ty.sub, PM.addD, PM.addIA, PM.subD, PM.mulD, PM.mulID, PM.fdivD, PM.modD, PM.powD, PM.ltD, PM.leD, PM.gtD, PM.geD, PM.cmpD, PM.eqD, PM.neD, PM.ixD, PM.sliceD, PM.lenD, PM.intD, PM.strD, PM.listD, PM.tupD, PM.joinD, PM.rjustD, PM.negD, List.length_cons, List.length_nil, List.getElem?_cons_zero, List.getElem?_cons_succ, List.set_cons_zero, List.set_cons_succ, List.map_cons, List.map_nil, List.cons_append, List.nil_append, List.append_nil, List.replicate, List.length_map, List.length_append, if_true, if_false, ite_true, ite_false, reduceIte, Bool.false_eq_true, decide_eq_true_eq, Option.map_some, Option.map_none, Option.bind_some, Option.bind_none, Option.some.injEq, Option.join, List.isEmpty_cons, List.isEmpty_nil, List.all_cons, List.all_nil, PM.owned, PM.noLS, PM.noL, PM.noLs, Bool.or_true, Bool.true_or, Bool.or_false, Bool.false_or, Bool.and_true, Bool.true_and, Bool.and_false, Bool.false_and, Bool.not_true, Bool.not_false, List.isEmpty_map, PM.setS, PM.augIxS, PM.isD, PM.isNonD, PM.isBlD, PM.isNotD, PM.sumD, PM.allD, PM.anyD, PM.absD, PM.gcdD, PM.bitsD, PM.maxD, PM.minD, reduceCtorEq, decide_true, decide_false, eq_self, Nat.zero_add, Nat.reduceAdd, Nat.reduceSub, Nat.reduceLT, Nat.reduceEqDiff, Int.reduceAdd, Int.reduceSub, Int.reduceMul, Int.cast_ofNat_Int, Int.reduceBNe, Int.reduceBEq, Int.reduceNe, Nat.reduceBEq, PySem.sizeLine_eq, Nat.reduceLeDiff, Nat.reduceMul, Nat.reducePow, Int.reduceLE, Int.reduceLT, Int.reduceNeg, Int.reducePow, Int.reduceEq, and_self, and_true, true_and, at0, at1, m1, m2, m3, m4, n1, n2, n3, n4, sign_l, sqs]
  have T1 : ∀ s3 s4 s5 : Option Slot, T1__law_sum_sign [some (false, W u), some (false, W v), some (false, W d), s3, s4, s5] = .nx [some (false, W u), some (false, W v), some (false, W d), some (false, .int (sg u.num)), s4, s5] := fun s3 s4 s5 => by
    unfold T1__law_sum_sign W T
    simp only [PM.tgT, PM.tgs, PM.callE, PM.runF, PM.initE, PM.seqS, PM.asgS, PM.tgS, PM.parS, PM.appS, PM.augS, PM.dropS, PM.retS, PM.retN, PM.retV, PM.ifS, PM.forS, PM.M.thenS, PM.M.bind, PM.M.lift, PM.ret, PM.cst, PM.var, PM.pvar, PM.pk, PM.bin, PM.asB, PM.truth, PM.tru, PM.tand, PM.tor, PM.tnot, PM.vand, PM.vor, PM.vnot, PM.iff, PM.sli, PM.ono, PM.oin, PM.acons, PM.anil, PM.cnil, PM.cval, PM.cvw, PM.lstE, PM.tupE, PM.blt, PM.isi, PM.una, PM.smE, PM.src, PM.rng1, PM.rng2, PM.skip, PM.brkS, PM.cntS, PM.tgN, PM.itemsD, PM.tyD, PM.Ty.sub, PM.addD, PM.addIA, PM.subD, PM.mulD, PM.mulID, PM.fdivD, PM.modD, PM.powD, PM.ltD, PM.leD, PM.gtD, PM.geD, PM.cmpD, PM.eqD, PM.neD, PM.ixD, PM.sliceD, PM.lenD, PM.intD, PM.strD, PM.listD, PM.tupD, PM.joinD, PM.rjustD, PM.negD, List.length_cons, List.length_nil, List.getElem?_cons_zero, List.getElem?_cons_succ, List.set_cons_zero, List.set_cons_succ, List.map_cons, List.map_nil, List.cons_append, List.nil_append, List.append_nil, List.replicate, List.length_map, List.length_append, if_true, if_false, ite_true, ite_false, reduceIte, Bool.false_eq_true, decide_eq_true_eq, Option.map_some, Option.map_none, Option.bind_some, Option.bind_none, Option.some.injEq, Option.join, List.isEmpty_cons, List.isEmpty_nil, List.all_cons, List.all_nil, PM.owned, PM.noLS, PM.noL, PM.noLs, Bool.or_true, Bool.true_or, Bool.or_false, Bool.false_or, Bool.and_true, Bool.true_and, Bool.and_false, Bool.false_and, Bool.not_true, Bool.not_false, List.isEmpty_map, PM.setS, PM.augIxS, PM.isD, PM.isNonD, PM.isBlD, PM.isNotD, PM.sumD, PM.allD, PM.anyD, PM.absD, PM.gcdD, PM.bitsD, PM.maxD, PM.minD, reduceCtorEq, decide_true, decide_false, eq_self, Nat.zero_add, Nat.reduceAdd, Nat.reduceSub, Nat.reduceLT, Nat.reduceEqDiff, Int.reduceAdd, Int.reduceSub, Int.reduceMul, Int.cast_ofNat_Int, Int.reduceBNe, Int.reduceBEq, Int.reduceNe, Nat.reduceBEq, PySem.sizeLine_eq, Nat.reduceLeDiff, Nat.reduceMul, Nat.reducePow, Int.reduceLE, Int.reduceLT, Int.reduceNeg, Int.reducePow, Int.reduceEq, and_self, and_true, true_and, at0, at1, sign_l]
  have T2 : ∀ s3 s4 s5 : Option Slot, T2__law_sum_sign [some (false, W u), some (false, W v), some (false, W d), s3, s4, s5] = .nx [some (false, W u), some (false, W v), some (false, W d), s3, some (false, .int (sg v.num)), s5] := fun s3 s4 s5 => by
    unfold T2__law_sum_sign W T
    simp only [PM.tgT, PM.tgs, PM.callE, PM.runF, PM.initE, PM.seqS, PM.asgS, PM.tgS, PM.parS, PM.appS, PM.augS, PM.dropS, PM.retS, PM.retN, PM.retV, PM.ifS, PM.forS, PM.M.thenS, PM.M.bind, PM.M.lift, PM.ret, PM.cst, PM.var, PM.pvar, PM.pk, PM.bin, PM.asB, PM.truth, PM.tru, PM.tand, PM.tor, PM.tnot, PM.vand, PM.vor, PM.vnot, PM.iff, PM.sli, PM.ono, PM.oin, PM.acons, PM.anil, PM.cnil, PM.cval, PM.cvw, PM.lstE, PM.tupE, PM.blt, PM.isi, PM.una, PM.smE, PM.src, PM.rng1, PM.rng2, PM.skip, PM.brkS, PM.cntS, PM.tgN, PM.itemsD, PM.tyD, PM.Ty.sub, PM.addD, PM.addIA, PM.subD, PM.mulD, PM.mulID, PM.fdivD, PM.modD, PM.powD, PM.ltD, PM.leD, PM.gtD, PM.geD, PM.cmpD, PM.eqD, PM.neD, PM.ixD, PM.sliceD, PM.lenD, PM.intD, PM.strD, PM.listD, PM.tupD, PM.joinD, PM.rjustD, PM.negD, List.length_cons, List.length_nil, List.getElem?_cons_zero, List.getElem?_cons_succ, List.set_cons_zero, List.set_cons_succ, List.map_cons, List.map_nil, List.cons_append, List.nil_append, List.append_nil, List.replicate, List.length_map, List.length_append, if_true, if_false, ite_true, ite_false, reduceIte, Bool.false_eq_true, decide_eq_true_eq, Option.map_some, Option.map_none, Option.bind_some, Option.bind_none, Option.some.injEq, Option.join, List.isEmpty_cons, List.isEmpty_nil, List.all_cons, List.all_nil, PM.owned, PM.noLS, PM.noL, PM.noLs, Bool.or_true, Bool.true_or, Bool.or_false, Bool.false_or, Bool.and_true, Bool.true_and, Bool.and_false, Bool.false_and, Bool.not_true, Bool.not_false, List.isEmpty_map, PM.setS, PM.augIxS, PM.isD, PM.isNonD, PM.isBlD, PM.isNotD, PM.sumD, PM.allD, PM.anyD, PM.absD, PM.gcdD, PM.bitsD, PM.maxD, PM.minD, reduceCtorEq, decide_true, decide_false, eq_self, Nat.zero_add, Nat.reduceAdd, Nat.reduceSub, Nat.reduceLT, Nat.reduceEqDiff, Int.reduceAdd, Int.reduceSub, Int.reduceMul, Int.cast_ofNat_Int, Int.reduceBNe, Int.reduceBEq, Int.reduceNe, Nat.reduceBEq, PySem.sizeLine_eq, Nat.reduceLeDiff, Nat.reduceMul, Nat.reducePow, Int.reduceLE, Int.reduceLT, Int.reduceNeg, Int.reducePow, Int.reduceEq, and_self, and_true, true_and, at0, at1, sign_l]
  have T3 : ∀ (s3 s4 s5 : Option Slot), T3__law_sum_sign [some (false, W u), some (false, W v), some (false, W d), s3, s4, s5] = .nx [some (false, W u), some (false, W v), some (false, W d), s3, if d.num = 0 then some (false, .int 0) else s4, s5] := fun s3 s4 s5 => by
    unfold T3__law_sum_sign W T
    by_cases c : d.num = 0
    · simp only [PM.tgT, PM.tgs, PM.callE, PM.runF, PM.initE, PM.seqS, PM.asgS, PM.tgS, PM.parS, PM.appS, PM.augS, PM.dropS, PM.retS, PM.retN, PM.retV, PM.ifS, PM.forS, PM.M.thenS, PM.M.bind, PM.M.lift, PM.ret, PM.cst, PM.var, PM.pvar, PM.pk, PM.bin, PM.asB, PM.truth, PM.tru, PM.tand, PM.tor, PM.tnot, PM.vand, PM.vor, PM.vnot, PM.iff, PM.sli, PM.ono, PM.oin, PM.acons, PM.anil, PM.cnil, PM.cval, PM.cvw, PM.lstE, PM.tupE, PM.blt, PM.isi, PM.una, PM.smE, PM.src, PM.rng1, PM.rng2, PM.skip, PM.brkS, PM.cntS, PM.tgN, PM.itemsD, PM.tyD, PM.Ty.sub, PM.addD, PM.addIA, PM.subD, PM.mulD, PM.mulID, PM.fdivD, PM.modD, PM.powD, PM.ltD, PM.leD, PM.gtD, PM.geD, PM.cmpD, PM.eqD, PM.neD, PM.ixD, PM.sliceD, PM.lenD, PM.intD, PM.strD, PM.listD, PM.tupD, PM.joinD, PM.rjustD, PM.negD, List.length_cons, List.length_nil, List.getElem?_cons_zero, List.getElem?_cons_succ, List.set_cons_zero, List.set_cons_succ, List.map_cons, List.map_nil, List.cons_append, List.nil_append, List.append_nil, List.replicate, List.length_map, List.length_append, if_true, if_false, ite_true, ite_false, reduceIte, Bool.false_eq_true, decide_eq_true_eq, Option.map_some, Option.map_none, Option.bind_some, Option.bind_none, Option.some.injEq, Option.join, List.isEmpty_cons, List.isEmpty_nil, List.all_cons, List.all_nil, PM.owned, PM.noLS, PM.noL, PM.noLs, Bool.or_true, Bool.true_or, Bool.or_false, Bool.false_or, Bool.and_true, Bool.true_and, Bool.and_false, Bool.false_and, Bool.not_true, Bool.not_false, List.isEmpty_map, PM.setS, PM.augIxS, PM.isD, PM.isNonD, PM.isBlD, PM.isNotD, PM.sumD, PM.allD, PM.anyD, PM.absD, PM.gcdD, PM.bitsD, PM.maxD, PM.minD, reduceCtorEq, decide_true, decide_false, eq_self, Nat.zero_add, Nat.reduceAdd, Nat.reduceSub, Nat.reduceLT, Nat.reduceEqDiff, Int.reduceAdd, Int.reduceSub, Int.reduceMul, Int.cast_ofNat_Int, Int.reduceBNe, Int.reduceBEq, Int.reduceNe, Nat.reduceBEq, PySem.sizeLine_eq, Nat.reduceLeDiff, Nat.reduceMul, Nat.reducePow, Int.reduceLE, Int.reduceLT, Int.reduceNeg, Int.reducePow, Int.reduceEq, and_self, and_true, true_and, at0, at1, eqv_int, c, decide_true, if_true]
    · simp only [PM.tgT, PM.tgs, PM.callE, PM.runF, PM.initE, PM.seqS, PM.asgS, PM.tgS, PM.parS, PM.appS, PM.augS, PM.dropS, PM.retS, PM.retN, PM.retV, PM.ifS, PM.forS, PM.M.thenS, PM.M.bind, PM.M.lift, PM.ret, PM.cst, PM.var, PM.pvar, PM.pk, PM.bin, PM.asB, PM.truth, PM.tru, PM.tand, PM.tor, PM.tnot, PM.vand, PM.vor, PM.vnot, PM.iff, PM.sli, PM.ono, PM.oin, PM.acons, PM.anil, PM.cnil, PM.cval, PM.cvw, PM.lstE, PM.tupE, PM.blt, PM.isi, PM.una, PM.smE, PM.src, PM.rng1, PM.rng2, PM.skip, PM.brkS, PM.cntS, PM.tgN, PM.itemsD, PM.tyD, PM.Ty.sub, PM.addD, PM.addIA, PM.subD, PM.mulD, PM.mulID, PM.fdivD, PM.modD, PM.powD, PM.ltD, PM.leD, PM.gtD, PM.geD, PM.cmpD, PM.eqD, PM.neD, PM.ixD, PM.sliceD, PM.lenD, PM.intD, PM.strD, PM.listD, PM.tupD, PM.joinD, PM.rjustD, PM.negD, List.length_cons, List.length_nil, List.getElem?_cons_zero, List.getElem?_cons_succ, List.set_cons_zero, List.set_cons_succ, List.map_cons, List.map_nil, List.cons_append, List.nil_append, List.append_nil, List.replicate, List.length_map, List.length_append, if_true, if_false, ite_true, ite_false, reduceIte, Bool.false_eq_true, decide_eq_true_eq, Option.map_some, Option.map_none, Option.bind_some, Option.bind_none, Option.some.injEq, Option.join, List.isEmpty_cons, List.isEmpty_nil, List.all_cons, List.all_nil, PM.owned, PM.noLS, PM.noL, PM.noLs, Bool.or_true, Bool.true_or, Bool.or_false, Bool.false_or, Bool.and_true, Bool.true_and, Bool.and_false, Bool.false_and, Bool.not_true, Bool.not_false, List.isEmpty_map, PM.setS, PM.augIxS, PM.isD, PM.isNonD, PM.isBlD, PM.isNotD, PM.sumD, PM.allD, PM.anyD, PM.absD, PM.gcdD, PM.bitsD, PM.maxD, PM.minD, reduceCtorEq, decide_true, decide_false, eq_self, Nat.zero_add, Nat.reduceAdd, Nat.reduceSub, Nat.reduceLT, Nat.reduceEqDiff, Int.reduceAdd, Int.reduceSub, Int.reduceMul, Int.cast_ofNat_Int, Int.reduceBNe, Int.reduceBEq, Int.reduceNe, Nat.reduceBEq, PySem.sizeLine_eq, Nat.reduceLeDiff, Nat.reduceMul, Nat.reducePow, Int.reduceLE, Int.reduceLT, Int.reduceNeg, Int.reducePow, Int.reduceEq, and_self, and_true, true_and, at0, at1, eqv_int, c, decide_false, if_false]
  refine run_rt rfl ?_
  unfold S__law_sum_sign
  refine (seq_nx (T1 none none none)).trans ?_
  rw [seq_nx (T2 _ none none), seq_nx (T3 _ _ none)]
  rcases sg3 d with ⟨d1, d2⟩ | ⟨d1, d2⟩ | ⟨d1, d2⟩
  · have zd : ¬ d.num = 0 := num_ne (by grind)
    rw [if_neg zd]
    have fin : ∀ (a b c R : Int), (if a = 0 ∨ a = b then b else if b = 0 then a else if c = 0 then 0 else if 0 < c then a else b) = R → (∀ s3 s4 s5 : Option Slot, T6__law_sum_sign [some (false, W u), some (false, W v), some (false, W d), s3, s4, s5] = .nx [some (false, W u), some (false, W v), some (false, W d), s3, s4, some (false, .int c)]) → seqS T4__law_sum_sign (seqS T5__law_sum_sign (seqS T6__law_sum_sign (seqS T7__law_sum_sign (seqS T8__law_sum_sign T9__law_sum_sign)))) [some (false, W u), some (false, W v), some (false, W d), some (false, .int a), some (false, .int b), none] = .rt (false, .int R) := by
      intro a b c R hR T6
      by_cases c1 : a = 0 ∨ a = b
      · rw [if_pos c1] at hR
        subst hR
        rcases c1 with c1 | c1
        · unfold T4__law_sum_sign
          simp only [PM.tgT, PM.tgs, PM.callE, PM.runF, PM.initE, PM.seqS, PM.asgS, PM.tgS, PM.parS, PM.appS, PM.augS, PM.dropS, PM.retS, PM.retN, PM.retV, PM.ifS, PM.forS, PM.M.thenS, PM.M.bind, PM.M.lift, PM.ret, PM.cst, PM.var, PM.pvar, PM.pk, PM.bin, PM.asB, PM.truth, PM.tru, PM.tand, PM.tor, PM.tnot, PM.vand, PM.vor, PM.vnot, PM.iff, PM.sli, PM.ono, PM.oin, PM.acons, PM.anil, PM.cnil, PM.cval, PM.cvw, PM.lstE, PM.tupE, PM.blt, PM.isi, PM.una, PM.smE, PM.src, PM.rng1, PM.rng2, PM.skip, PM.brkS, PM.cntS, PM.tgN, PM.itemsD, PM.tyD, PM.Ty.sub, PM.addD, PM.addIA, PM.subD, PM.mulD, PM.mulID, PM.fdivD, PM.modD, PM.powD, PM.ltD, PM.leD, PM.gtD, PM.geD, PM.cmpD, PM.eqD, PM.neD, PM.ixD, PM.sliceD, PM.lenD, PM.intD, PM.strD, PM.listD, PM.tupD, PM.joinD, PM.rjustD, PM.negD, List.length_cons, List.length_nil, List.getElem?_cons_zero, List.getElem?_cons_succ, List.set_cons_zero, List.set_cons_succ, List.map_cons, List.map_nil, List.cons_append, List.nil_append, List.append_nil, List.replicate, List.length_map, List.length_append, if_true, if_false, ite_true, ite_false, reduceIte, Bool.false_eq_true, decide_eq_true_eq, Option.map_some, Option.map_none, Option.bind_some, Option.bind_none, Option.some.injEq, Option.join, List.isEmpty_cons, List.isEmpty_nil, List.all_cons, List.all_nil, PM.owned, PM.noLS, PM.noL, PM.noLs, Bool.or_true, Bool.true_or, Bool.or_false, Bool.false_or, Bool.and_true, Bool.true_and, Bool.and_false, Bool.false_and, Bool.not_true, Bool.not_false, List.isEmpty_map, PM.setS, PM.augIxS, PM.isD, PM.isNonD, PM.isBlD, PM.isNotD, PM.sumD, PM.allD, PM.anyD, PM.absD, PM.gcdD, PM.bitsD, PM.maxD, PM.minD, reduceCtorEq, decide_true, decide_false, eq_self, Nat.zero_add, Nat.reduceAdd, Nat.reduceSub, Nat.reduceLT, Nat.reduceEqDiff, Int.reduceAdd, Int.reduceSub, Int.reduceMul, Int.cast_ofNat_Int, Int.reduceBNe, Int.reduceBEq, Int.reduceNe, Nat.reduceBEq, PySem.sizeLine_eq, Nat.reduceLeDiff, Nat.reduceMul, Nat.reducePow, Int.reduceLE, Int.reduceLT, Int.reduceNeg, Int.reducePow, Int.reduceEq, and_self, and_true, true_and, eqv_int, c1, decide_true]
        · by_cases c0 : a = 0
          · unfold T4__law_sum_sign
            simp only [PM.tgT, PM.tgs, PM.callE, PM.runF, PM.initE, PM.seqS, PM.asgS, PM.tgS, PM.parS, PM.appS, PM.augS, PM.dropS, PM.retS, PM.retN, PM.retV, PM.ifS, PM.forS, PM.M.thenS, PM.M.bind, PM.M.lift, PM.ret, PM.cst, PM.var, PM.pvar, PM.pk, PM.bin, PM.asB, PM.truth, PM.tru, PM.tand, PM.tor, PM.tnot, PM.vand, PM.vor, PM.vnot, PM.iff, PM.sli, PM.ono, PM.oin, PM.acons, PM.anil, PM.cnil, PM.cval, PM.cvw, PM.lstE, PM.tupE, PM.blt, PM.isi, PM.una, PM.smE, PM.src, PM.rng1, PM.rng2, PM.skip, PM.brkS, PM.cntS, PM.tgN, PM.itemsD, PM.tyD, PM.Ty.sub, PM.addD, PM.addIA, PM.subD, PM.mulD, PM.mulID, PM.fdivD, PM.modD, PM.powD, PM.ltD, PM.leD, PM.gtD, PM.geD, PM.cmpD, PM.eqD, PM.neD, PM.ixD, PM.sliceD, PM.lenD, PM.intD, PM.strD, PM.listD, PM.tupD, PM.joinD, PM.rjustD, PM.negD, List.length_cons, List.length_nil, List.getElem?_cons_zero, List.getElem?_cons_succ, List.set_cons_zero, List.set_cons_succ, List.map_cons, List.map_nil, List.cons_append, List.nil_append, List.append_nil, List.replicate, List.length_map, List.length_append, if_true, if_false, ite_true, ite_false, reduceIte, Bool.false_eq_true, decide_eq_true_eq, Option.map_some, Option.map_none, Option.bind_some, Option.bind_none, Option.some.injEq, Option.join, List.isEmpty_cons, List.isEmpty_nil, List.all_cons, List.all_nil, PM.owned, PM.noLS, PM.noL, PM.noLs, Bool.or_true, Bool.true_or, Bool.or_false, Bool.false_or, Bool.and_true, Bool.true_and, Bool.and_false, Bool.false_and, Bool.not_true, Bool.not_false, List.isEmpty_map, PM.setS, PM.augIxS, PM.isD, PM.isNonD, PM.isBlD, PM.isNotD, PM.sumD, PM.allD, PM.anyD, PM.absD, PM.gcdD, PM.bitsD, PM.maxD, PM.minD, reduceCtorEq, decide_true, decide_false, eq_self, Nat.zero_add, Nat.reduceAdd, Nat.reduceSub, Nat.reduceLT, Nat.reduceEqDiff, Int.reduceAdd, Int.reduceSub, Int.reduceMul, Int.cast_ofNat_Int, Int.reduceBNe, Int.reduceBEq, Int.reduceNe, Nat.reduceBEq, PySem.sizeLine_eq, Nat.reduceLeDiff, Nat.reduceMul, Nat.reducePow, Int.reduceLE, Int.reduceLT, Int.reduceNeg, Int.reducePow, Int.reduceEq, and_self, and_true, true_and, eqv_int, decide_eq_true c0]
          · unfold T4__law_sum_sign
            simp only [PM.tgT, PM.tgs, PM.callE, PM.runF, PM.initE, PM.seqS, PM.asgS, PM.tgS, PM.parS, PM.appS, PM.augS, PM.dropS, PM.retS, PM.retN, PM.retV, PM.ifS, PM.forS, PM.M.thenS, PM.M.bind, PM.M.lift, PM.ret, PM.cst, PM.var, PM.pvar, PM.pk, PM.bin, PM.asB, PM.truth, PM.tru, PM.tand, PM.tor, PM.tnot, PM.vand, PM.vor, PM.vnot, PM.iff, PM.sli, PM.ono, PM.oin, PM.acons, PM.anil, PM.cnil, PM.cval, PM.cvw, PM.lstE, PM.tupE, PM.blt, PM.isi, PM.una, PM.smE, PM.src, PM.rng1, PM.rng2, PM.skip, PM.brkS, PM.cntS, PM.tgN, PM.itemsD, PM.tyD, PM.Ty.sub, PM.addD, PM.addIA, PM.subD, PM.mulD, PM.mulID, PM.fdivD, PM.modD, PM.powD, PM.ltD, PM.leD, PM.gtD, PM.geD, PM.cmpD, PM.eqD, PM.neD, PM.ixD, PM.sliceD, PM.lenD, PM.intD, PM.strD, PM.listD, PM.tupD, PM.joinD, PM.rjustD, PM.negD, List.length_cons, List.length_nil, List.getElem?_cons_zero, List.getElem?_cons_succ, List.set_cons_zero, List.set_cons_succ, List.map_cons, List.map_nil, List.cons_append, List.nil_append, List.append_nil, List.replicate, List.length_map, List.length_append, if_true, if_false, ite_true, ite_false, reduceIte, Bool.false_eq_true, decide_eq_true_eq, Option.map_some, Option.map_none, Option.bind_some, Option.bind_none, Option.some.injEq, Option.join, List.isEmpty_cons, List.isEmpty_nil, List.all_cons, List.all_nil, PM.owned, PM.noLS, PM.noL, PM.noLs, Bool.or_true, Bool.true_or, Bool.or_false, Bool.false_or, Bool.and_true, Bool.true_and, Bool.and_false, Bool.false_and, Bool.not_true, Bool.not_false, List.isEmpty_map, PM.setS, PM.augIxS, PM.isD, PM.isNonD, PM.isBlD, PM.isNotD, PM.sumD, PM.allD, PM.anyD, PM.absD, PM.gcdD, PM.bitsD, PM.maxD, PM.minD, reduceCtorEq, decide_true, decide_false, eq_self, Nat.zero_add, Nat.reduceAdd, Nat.reduceSub, Nat.reduceLT, Nat.reduceEqDiff, Int.reduceAdd, Int.reduceSub, Int.reduceMul, Int.cast_ofNat_Int, Int.reduceBNe, Int.reduceBEq, Int.reduceNe, Nat.reduceBEq, PySem.sizeLine_eq, Nat.reduceLeDiff, Nat.reduceMul, Nat.reducePow, Int.reduceLE, Int.reduceLT, Int.reduceNeg, Int.reducePow, Int.reduceEq, and_self, and_true, true_and, eqv_int, decide_eq_false c0, decide_eq_true c1]
      · rw [if_neg c1] at hR
        have ca : ¬ a = 0 := fun h => c1 (.inl h)
        have cb : ¬ a = b := fun h => c1 (.inr h)
        have t4 : T4__law_sum_sign [some (false, W u), some (false, W v), some (false, W d), some (false, .int a), some (false, .int b), none] = .nx [some (false, W u), some (false, W v), some (false, W d), some (false, .int a), some (false, .int b), none] := by
          unfold T4__law_sum_sign
          simp only [PM.tgT, PM.tgs, PM.callE, PM.runF, PM.initE, PM.seqS, PM.asgS, PM.tgS, PM.parS, PM.appS, PM.augS, PM.dropS, PM.retS, PM.retN, PM.retV, PM.ifS, PM.forS, PM.M.thenS, PM.M.bind, PM.M.lift, PM.ret, PM.cst, PM.var, PM.pvar, PM.pk, PM.bin, PM.asB, PM.truth, PM.tru, PM.tand, PM.tor, PM.tnot, PM.vand, PM.vor, PM.vnot, PM.iff, PM.sli, PM.ono, PM.oin, PM.acons, PM.anil, PM.cnil, PM.cval, PM.cvw, PM.lstE, PM.tupE, PM.blt, PM.isi, PM.una, PM.smE, PM.src, PM.rng1, PM.rng2, PM.skip, PM.brkS, PM.cntS, PM.tgN, PM.itemsD, PM.tyD, PM.Ty.sub, PM.addD, PM.addIA, PM.subD, PM.mulD, PM.mulID, PM.fdivD, PM.modD, PM.powD, PM.ltD, PM.leD, PM.gtD, PM.geD, PM.cmpD, PM.eqD, PM.neD, PM.ixD, PM.sliceD, PM.lenD, PM.intD, PM.strD, PM.listD, PM.tupD, PM.joinD, PM.rjustD, PM.negD, List.length_cons, List.length_nil, List.getElem?_cons_zero, List.getElem?_cons_succ, List.set_cons_zero, List.set_cons_succ, List.map_cons, List.map_nil, List.cons_append, List.nil_append, List.append_nil, List.replicate, List.length_map, List.length_append, if_true, if_false, ite_true, ite_false, reduceIte, Bool.false_eq_true, decide_eq_true_eq, Option.map_some, Option.map_none, Option.bind_some, Option.bind_none, Option.some.injEq, Option.join, List.isEmpty_cons, List.isEmpty_nil, List.all_cons, List.all_nil, PM.owned, PM.noLS, PM.noL, PM.noLs, Bool.or_true, Bool.true_or, Bool.or_false, Bool.false_or, Bool.and_true, Bool.true_and, Bool.and_false, Bool.false_and, Bool.not_true, Bool.not_false, List.isEmpty_map, PM.setS, PM.augIxS, PM.isD, PM.isNonD, PM.isBlD, PM.isNotD, PM.sumD, PM.allD, PM.anyD, PM.absD, PM.gcdD, PM.bitsD, PM.maxD, PM.minD, reduceCtorEq, decide_true, decide_false, eq_self, Nat.zero_add, Nat.reduceAdd, Nat.reduceSub, Nat.reduceLT, Nat.reduceEqDiff, Int.reduceAdd, Int.reduceSub, Int.reduceMul, Int.cast_ofNat_Int, Int.reduceBNe, Int.reduceBEq, Int.reduceNe, Nat.reduceBEq, PySem.sizeLine_eq, Nat.reduceLeDiff, Nat.reduceMul, Nat.reducePow, Int.reduceLE, Int.reduceLT, Int.reduceNeg, Int.reducePow, Int.reduceEq, and_self, and_true, true_and, eqv_int, decide_eq_false ca, decide_eq_false cb]
        rw [seq_nx t4]
        by_cases c2 : b = 0
        · rw [if_pos c2] at hR
          subst hR
          unfold T5__law_sum_sign
          simp only [PM.tgT, PM.tgs, PM.callE, PM.runF, PM.initE, PM.seqS, PM.asgS, PM.tgS, PM.parS, PM.appS, PM.augS, PM.dropS, PM.retS, PM.retN, PM.retV, PM.ifS, PM.forS, PM.M.thenS, PM.M.bind, PM.M.lift, PM.ret, PM.cst, PM.var, PM.pvar, PM.pk, PM.bin, PM.asB, PM.truth, PM.tru, PM.tand, PM.tor, PM.tnot, PM.vand, PM.vor, PM.vnot, PM.iff, PM.sli, PM.ono, PM.oin, PM.acons, PM.anil, PM.cnil, PM.cval, PM.cvw, PM.lstE, PM.tupE, PM.blt, PM.isi, PM.una, PM.smE, PM.src, PM.rng1, PM.rng2, PM.skip, PM.brkS, PM.cntS, PM.tgN, PM.itemsD, PM.tyD, PM.Ty.sub, PM.addD, PM.addIA, PM.subD, PM.mulD, PM.mulID, PM.fdivD, PM.modD, PM.powD, PM.ltD, PM.leD, PM.gtD, PM.geD, PM.cmpD, PM.eqD, PM.neD, PM.ixD, PM.sliceD, PM.lenD, PM.intD, PM.strD, PM.listD, PM.tupD, PM.joinD, PM.rjustD, PM.negD, List.length_cons, List.length_nil, List.getElem?_cons_zero, List.getElem?_cons_succ, List.set_cons_zero, List.set_cons_succ, List.map_cons, List.map_nil, List.cons_append, List.nil_append, List.append_nil, List.replicate, List.length_map, List.length_append, if_true, if_false, ite_true, ite_false, reduceIte, Bool.false_eq_true, decide_eq_true_eq, Option.map_some, Option.map_none, Option.bind_some, Option.bind_none, Option.some.injEq, Option.join, List.isEmpty_cons, List.isEmpty_nil, List.all_cons, List.all_nil, PM.owned, PM.noLS, PM.noL, PM.noLs, Bool.or_true, Bool.true_or, Bool.or_false, Bool.false_or, Bool.and_true, Bool.true_and, Bool.and_false, Bool.false_and, Bool.not_true, Bool.not_false, List.isEmpty_map, PM.setS, PM.augIxS, PM.isD, PM.isNonD, PM.isBlD, PM.isNotD, PM.sumD, PM.allD, PM.anyD, PM.absD, PM.gcdD, PM.bitsD, PM.maxD, PM.minD, reduceCtorEq, decide_true, decide_false, eq_self, Nat.zero_add, Nat.reduceAdd, Nat.reduceSub, Nat.reduceLT, Nat.reduceEqDiff, Int.reduceAdd, Int.reduceSub, Int.reduceMul, Int.cast_ofNat_Int, Int.reduceBNe, Int.reduceBEq, Int.reduceNe, Nat.reduceBEq, PySem.sizeLine_eq, Nat.reduceLeDiff, Nat.reduceMul, Nat.reducePow, Int.reduceLE, Int.reduceLT, Int.reduceNeg, Int.reducePow, Int.reduceEq, and_self, and_true, true_and, eqv_int, decide_eq_true c2]
        · rw [if_neg c2] at hR
          have t5 : T5__law_sum_sign [some (false, W u), some (false, W v), some (false, W d), some (false, .int a), some (false, .int b), none] = .nx [some (false, W u), some (false, W v), some (false, W d), some (false, .int a), some (false, .int b), none] := by
            unfold T5__law_sum_sign
            simp only [PM.tgT, PM.tgs, PM.callE, PM.runF, PM.initE, PM.seqS, PM.asgS, PM.tgS, PM.parS, PM.appS, PM.augS, PM.dropS, PM.retS, PM.retN, PM.retV, PM.ifS, PM.forS, PM.M.thenS, PM.M.bind, PM.M.lift, PM.ret, PM.cst, PM.var, PM.pvar, PM.pk, PM.bin, PM.asB, PM.truth, PM.tru, PM.tand, PM.tor, PM.tnot, PM.vand, PM.vor, PM.vnot, PM.iff, PM.sli, PM.ono, PM.oin, PM.acons, PM.anil, PM.cnil, PM.cval, PM.cvw, PM.lstE, PM.tupE, PM.blt, PM.isi, PM.una, PM.smE, PM.src, PM.rng1, PM.rng2, PM.skip, PM.brkS, PM.cntS, PM.tgN, PM.itemsD, PM.tyD, PM.Ty.sub, PM.addD, PM.addIA, PM.subD, PM.mulD, PM.mulID, PM.fdivD, PM.modD, PM.powD, PM.ltD, PM.leD, PM.gtD, PM.geD, PM.cmpD, PM.eqD, PM.neD, PM.ixD, PM.sliceD, PM.lenD, PM.intD, PM.strD, PM.listD, PM.tupD, PM.joinD, PM.rjustD, PM.negD, List.length_cons, List.length_nil, List.getElem?_cons_zero, List.getElem?_cons_succ, List.set_cons_zero, List.set_cons_succ, List.map_cons, List.map_nil, List.cons_append, List.nil_append, List.append_nil, List.replicate, List.length_map, List.length_append, if_true, if_false, ite_true, ite_false, reduceIte, Bool.false_eq_true, decide_eq_true_eq, Option.map_some, Option.map_none, Option.bind_some, Option.bind_none, Option.some.injEq, Option.join, List.isEmpty_cons, List.isEmpty_nil, List.all_cons, List.all_nil, PM.owned, PM.noLS, PM.noL, PM.noLs, Bool.or_true, Bool.true_or, Bool.or_false, Bool.false_or, Bool.and_true, Bool.true_and, Bool.and_false, Bool.false_and, Bool.not_true, Bool.not_false, List.isEmpty_map, PM.setS, PM.augIxS, PM.isD, PM.isNonD, PM.isBlD, PM.isNotD, PM.sumD, PM.allD, PM.anyD, PM.absD, PM.gcdD, PM.bitsD, PM.maxD, PM.minD, reduceCtorEq, decide_true, decide_false, eq_self, Nat.zero_add, Nat.reduceAdd, Nat.reduceSub, Nat.reduceLT, Nat.reduceEqDiff, Int.reduceAdd, Int.reduceSub, Int.reduceMul, Int.cast_ofNat_Int, Int.reduceBNe, Int.reduceBEq, Int.reduceNe, Nat.reduceBEq, PySem.sizeLine_eq, Nat.reduceLeDiff, Nat.reduceMul, Nat.reducePow, Int.reduceLE, Int.reduceLT, Int.reduceNeg, Int.reducePow, Int.reduceEq, and_self, and_true, true_and, eqv_int, decide_eq_false c2]
          rw [seq_nx t5, seq_nx (T6 _ _ none)]
          by_cases c3 : c = 0
          · rw [if_pos c3] at hR
            subst hR
            unfold T7__law_sum_sign
            simp only [PM.tgT, PM.tgs, PM.callE, PM.runF, PM.initE, PM.seqS, PM.asgS, PM.tgS, PM.parS, PM.appS, PM.augS, PM.dropS, PM.retS, PM.retN, PM.retV, PM.ifS, PM.forS, PM.M.thenS, PM.M.bind, PM.M.lift, PM.ret, PM.cst, PM.var, PM.pvar, PM.pk, PM.bin, PM.asB, PM.truth, PM.tru, PM.tand, PM.tor, PM.tnot, PM.vand, PM.vor, PM.vnot, PM.iff, PM.sli, PM.ono, PM.oin, PM.acons, PM.anil, PM.cnil, PM.cval, PM.cvw, PM.lstE, PM.tupE, PM.blt, PM.isi, PM.una, PM.smE, PM.src, PM.rng1, PM.rng2, PM.skip, PM.brkS, PM.cntS, PM.tgN, PM.itemsD, PM.tyD, PM.Ty.sub, PM.addD, PM.addIA, PM.subD, PM.mulD, PM.mulID, PM.fdivD, PM.modD, PM.powD, PM.ltD, PM.leD, PM.gtD, PM.geD, PM.cmpD, PM.eqD, PM.neD, PM.ixD, PM.sliceD, PM.lenD, PM.intD, PM.strD, PM.listD, PM.tupD, PM.joinD, PM.rjustD, PM.negD, List.length_cons, List.length_nil, List.getElem?_cons_zero, List.getElem?_cons_succ, List.set_cons_zero, List.set_cons_succ, List.map_cons, List.map_nil, List.cons_append, List.nil_append, List.append_nil, List.replicate, List.length_map, List.length_append, if_true, if_false, ite_true, ite_false, reduceIte, Bool.false_eq_true, decide_eq_true_eq, Option.map_some, Option.map_none, Option.bind_some, Option.bind_none, Option.some.injEq, Option.join, List.isEmpty_cons, List.isEmpty_nil, List.all_cons, List.all_nil, PM.owned, PM.noLS, PM.noL, PM.noLs, Bool.or_true, Bool.true_or, Bool.or_false, Bool.false_or, Bool.and_true, Bool.true_and, Bool.and_false, Bool.false_and, Bool.not_true, Bool.not_false, List.isEmpty_map, PM.setS, PM.augIxS, PM.isD, PM.isNonD, PM.isBlD, PM.isNotD, PM.sumD, PM.allD, PM.anyD, PM.absD, PM.gcdD, PM.bitsD, PM.maxD, PM.minD, reduceCtorEq, decide_true, decide_false, eq_self, Nat.zero_add, Nat.reduceAdd, Nat.reduceSub, Nat.reduceLT, Nat.reduceEqDiff, Int.reduceAdd, Int.reduceSub, Int.reduceMul, Int.cast_ofNat_Int, Int.reduceBNe, Int.reduceBEq, Int.reduceNe, Nat.reduceBEq, PySem.sizeLine_eq, Nat.reduceLeDiff, Nat.reduceMul, Nat.reducePow, Int.reduceLE, Int.reduceLT, Int.reduceNeg, Int.reducePow, Int.reduceEq, and_self, and_true, true_and, eqv_int, decide_eq_true c3]
          · rw [if_neg c3] at hR
            have t7 : T7__law_sum_sign [some (false, W u), some (false, W v), some (false, W d), some (false, .int a), some (false, .int b), some (false, .int c)] = .nx [some (false, W u), some (false, W v), some (false, W d), some (false, .int a), some (false, .int b), some (false, .int c)] := by
              unfold T7__law_sum_sign
              simp only [PM.tgT, PM.tgs, PM.callE, PM.runF, PM.initE, PM.seqS, PM.asgS, PM.tgS, PM.parS, PM.appS, PM.augS, PM.dropS, PM.retS, PM.retN, PM.retV, PM.ifS, PM.forS, PM.M.thenS, PM.M.bind, PM.M.lift, PM.ret, PM.cst, PM.var, PM.pvar, PM.pk, PM.bin, PM.asB, PM.truth, PM.tru, PM.tand, PM.tor, PM.tnot, PM.vand, PM.vor, PM.vnot, PM.iff, PM.sli, PM.ono, PM.oin, PM.acons, PM.anil, PM.cnil, PM.cval, PM.cvw, PM.lstE, PM.tupE, PM.blt, PM.isi, PM.una, PM.smE, PM.src, PM.rng1, PM.rng2, PM.skip, PM.brkS, PM.cntS, PM.tgN, PM.itemsD, PM.tyD, PM.Ty.sub, PM.addD, PM.addIA, PM.subD, PM.mulD, PM.mulID, PM.fdivD, PM.modD, PM.powD, PM.ltD, PM.leD, PM.gtD, PM.geD, PM.cmpD, PM.eqD, PM.neD, PM.ixD, PM.sliceD, PM.lenD, PM.intD, PM.strD, PM.listD, PM.tupD, PM.joinD, PM.rjustD, PM.negD, List.length_cons, List.length_nil, List.getElem?_cons_zero, List.getElem?_cons_succ, List.set_cons_zero, List.set_cons_succ, List.map_cons, List.map_nil, List.cons_append, List.nil_append, List.append_nil, List.replicate, List.length_map, List.length_append, if_true, if_false, ite_true, ite_false, reduceIte, Bool.false_eq_true, decide_eq_true_eq, Option.map_some, Option.map_none, Option.bind_some, Option.bind_none, Option.some.injEq, Option.join, List.isEmpty_cons, List.isEmpty_nil, List.all_cons, List.all_nil, PM.owned, PM.noLS, PM.noL, PM.noLs, Bool.or_true, Bool.true_or, Bool.or_false, Bool.false_or, Bool.and_true, Bool.true_and, Bool.and_false, Bool.false_and, Bool.not_true, Bool.not_false, List.isEmpty_map, PM.setS, PM.augIxS, PM.isD, PM.isNonD, PM.isBlD, PM.isNotD, PM.sumD, PM.allD, PM.anyD, PM.absD, PM.gcdD, PM.bitsD, PM.maxD, PM.minD, reduceCtorEq, decide_true, decide_false, eq_self, Nat.zero_add, Nat.reduceAdd, Nat.reduceSub, Nat.reduceLT, Nat.reduceEqDiff, Int.reduceAdd, Int.reduceSub, Int.reduceMul, Int.cast_ofNat_Int, Int.reduceBNe, Int.reduceBEq, Int.reduceNe, Nat.reduceBEq, PySem.sizeLine_eq, Nat.reduceLeDiff, Nat.reduceMul, Nat.reducePow, Int.reduceLE, Int.reduceLT, Int.reduceNeg, Int.reducePow, Int.reduceEq, and_self, and_true, true_and, eqv_int, decide_eq_false c3]
            rw [seq_nx t7]
            by_cases c4 : 0 < c
            · rw [if_pos c4] at hR
              subst hR
              unfold T8__law_sum_sign
              simp only [PM.tgT, PM.tgs, PM.callE, PM.runF, PM.initE, PM.seqS, PM.asgS, PM.tgS, PM.parS, PM.appS, PM.augS, PM.dropS, PM.retS, PM.retN, PM.retV, PM.ifS, PM.forS, PM.M.thenS, PM.M.bind, PM.M.lift, PM.ret, PM.cst, PM.var, PM.pvar, PM.pk, PM.bin, PM.asB, PM.truth, PM.tru, PM.tand, PM.tor, PM.tnot, PM.vand, PM.vor, PM.vnot, PM.iff, PM.sli, PM.ono, PM.oin, PM.acons, PM.anil, PM.cnil, PM.cval, PM.cvw, PM.lstE, PM.tupE, PM.blt, PM.isi, PM.una, PM.smE, PM.src, PM.rng1, PM.rng2, PM.skip, PM.brkS, PM.cntS, PM.tgN, PM.itemsD, PM.tyD, PM.Ty.sub, PM.addD, PM.addIA, PM.subD, PM.mulD, PM.mulID, PM.fdivD, PM.modD, PM.powD, PM.ltD, PM.leD, PM.gtD, PM.geD, PM.cmpD, PM.eqD, PM.neD, PM.ixD, PM.sliceD, PM.lenD, PM.intD, PM.strD, PM.listD, PM.tupD, PM.joinD, PM.rjustD, PM.negD, List.length_cons, List.length_nil, List.getElem?_cons_zero, List.getElem?_cons_succ, List.set_cons_zero, List.set_cons_succ, List.map_cons, List.map_nil, List.cons_append, List.nil_append, List.append_nil, List.replicate, List.length_map, List.length_append, if_true, if_false, ite_true, ite_false, reduceIte, Bool.false_eq_true, decide_eq_true_eq, Option.map_some, Option.map_none, Option.bind_some, Option.bind_none, Option.some.injEq, Option.join, List.isEmpty_cons, List.isEmpty_nil, List.all_cons, List.all_nil, PM.owned, PM.noLS, PM.noL, PM.noLs, Bool.or_true, Bool.true_or, Bool.or_false, Bool.false_or, Bool.and_true, Bool.true_and, Bool.and_false, Bool.false_and, Bool.not_true, Bool.not_false, List.isEmpty_map, PM.setS, PM.augIxS, PM.isD, PM.isNonD, PM.isBlD, PM.isNotD, PM.sumD, PM.allD, PM.anyD, PM.absD, PM.gcdD, PM.bitsD, PM.maxD, PM.minD, reduceCtorEq, decide_true, decide_false, eq_self, Nat.zero_add, Nat.reduceAdd, Nat.reduceSub, Nat.reduceLT, Nat.reduceEqDiff, Int.reduceAdd, Int.reduceSub, Int.reduceMul, Int.cast_ofNat_Int, Int.reduceBNe, Int.reduceBEq, Int.reduceNe, Nat.reduceBEq, PySem.sizeLine_eq, Nat.reduceLeDiff, Nat.reduceMul, Nat.reducePow, Int.reduceLE, Int.reduceLT, Int.reduceNeg, Int.reducePow, Int.reduceEq, and_self, and_true, true_and, decide_eq_true c4]
            · rw [if_neg c4] at hR
              subst hR
              unfold T8__law_sum_sign T9__law_sum_sign
              simp only [PM.tgT, PM.tgs, PM.callE, PM.runF, PM.initE, PM.seqS, PM.asgS, PM.tgS, PM.parS, PM.appS, PM.augS, PM.dropS, PM.retS, PM.retN, PM.retV, PM.ifS, PM.forS, PM.M.thenS, PM.M.bind, PM.M.lift, PM.ret, PM.cst, PM.var, PM.pvar, PM.pk, PM.bin, PM.asB, PM.truth, PM.tru, PM.tand, PM.tor, PM.tnot, PM.vand, PM.vor, PM.vnot, PM.iff, PM.sli, PM.ono, PM.oin, PM.acons, PM.anil, PM.cnil, PM.cval, PM.cvw, PM.lstE, PM.tupE, PM.blt, PM.isi, PM.una, PM.smE, PM.src, PM.rng1, PM.rng2, PM.skip, PM.brkS, PM.cntS, PM.tgN, PM.itemsD, PM.tyD, PM.Ty.sub, PM.addD, PM.addIA, PM.subD, PM.mulD, PM.mulID, PM.fdivD, PM.modD, PM.powD, PM.ltD, PM.leD, PM.gtD, PM.geD, PM.cmpD, PM.eqD, PM.neD, PM.ixD, PM.sliceD, PM.lenD, PM.intD, PM.strD, PM.listD, PM.tupD, PM.joinD, PM.rjustD, PM.negD, List.length_cons, List.length_nil, List.getElem?_cons_zero, List.getElem?_cons_succ, List.set_cons_zero, List.set_cons_succ, List.map_cons, List.map_nil, List.cons_append, List.nil_append, List.append_nil, List.replicate, List.length_map, List.length_append, if_true, if_false, ite_true, ite_false, reduceIte, Bool.false_eq_true, decide_eq_true_eq, Option.map_some, Option.map_none, Option.bind_some, Option.bind_none, Option.some.injEq, Option.join, List.isEmpty_cons, List.isEmpty_nil, List.all_cons, List.all_nil, PM.owned, PM.noLS, PM.noL, PM.noLs, Bool.or_true, Bool.true_or, Bool.or_false, Bool.false_or, Bool.and_true, Bool.true_and, Bool.and_false, Bool.false_and, Bool.not_true, Bool.not_false, List.isEmpty_map, PM.setS, PM.augIxS, PM.isD, PM.isNonD, PM.isBlD, PM.isNotD, PM.sumD, PM.allD, PM.anyD, PM.absD, PM.gcdD, PM.bitsD, PM.maxD, PM.minD, reduceCtorEq, decide_true, decide_false, eq_self, Nat.zero_add, Nat.reduceAdd, Nat.reduceSub, Nat.reduceLT, Nat.reduceEqDiff, Int.reduceAdd, Int.reduceSub, Int.reduceMul, Int.cast_ofNat_Int, Int.reduceBNe, Int.reduceBEq, Int.reduceNe, Nat.reduceBEq, PySem.sizeLine_eq, Nat.reduceLeDiff, Nat.reduceMul, Nat.reducePow, Int.reduceLE, Int.reduceLT, Int.reduceNeg, Int.reducePow, Int.reduceEq, and_self, and_true, true_and, decide_eq_false c4]
    refine fin _ _ _ _ ?_ T6
    rcases sg3 v with ⟨v1, v2⟩ | ⟨v1, v2⟩ | ⟨v1, v2⟩
    · rcases sg3 u with ⟨u1, u2⟩ | ⟨u1, u2⟩ | ⟨u1, u2⟩
      · rw [ss_pp (by grind) v1 d1, u2, v2]; rfl
      · rw [ss_np u1 v1, u2, v2]
        rcases sg3 (u * u - v * v * d) with ⟨s1, s2⟩ | ⟨s1, s2⟩ | ⟨s1, s2⟩ <;> rw [s2] <;> rfl
      · rw [ss_pp (by grind) v1 d1, u2, v2]; rfl
    · rcases sg3 u with ⟨u1, u2⟩ | ⟨u1, u2⟩ | ⟨u1, u2⟩
      · rw [ss_pn u1 v1, u2, v2]
        rcases sg3 (u * u - v * v * d) with ⟨s1, s2⟩ | ⟨s1, s2⟩ | ⟨s1, s2⟩ <;> rw [s2] <;> rfl
      · rw [ss_nn (by grind) v1 d1, u2, v2]; rfl
      · rw [ss_nn (by grind) v1 d1, u2, v2]; rfl
    · rw [ss_0 (.inl v1), v2]
      rcases sg3 u with ⟨u1, u2⟩ | ⟨u1, u2⟩ | ⟨u1, u2⟩ <;> rw [u2] <;> rfl
  · grind
  · have zd : d.num = 0 := by rw [d1]; rfl
    rw [if_pos zd, ss_0 (.inr d1)]
    rcases sg3 u with ⟨u1, u2⟩ | ⟨u1, u2⟩ | ⟨u1, u2⟩
    all_goals
      rw [u2]
      unfold T4__law_sum_sign T5__law_sum_sign
      simp only [PM.tgT, PM.tgs, PM.callE, PM.runF, PM.initE, PM.seqS, PM.asgS, PM.tgS, PM.parS, PM.appS, PM.augS, PM.dropS, PM.retS, PM.retN, PM.retV, PM.ifS, PM.forS, PM.M.thenS, PM.M.bind, PM.M.lift, PM.ret, PM.cst, PM.var, PM.pvar, PM.pk, PM.bin, PM.asB, PM.truth, PM.tru, PM.tand, PM.tor, PM.tnot, PM.vand, PM.vor, PM.vnot, PM.iff, PM.sli, PM.ono, PM.oin, PM.acons, PM.anil, PM.cnil, PM.cval, PM.cvw, PM.lstE, PM.tupE, PM.blt, PM.isi, PM.una, PM.smE, PM.src, PM.rng1, PM.rng2, PM.skip, PM.brkS, PM.cntS, PM.tgN, PM.itemsD, PM.tyD, PM.Ty.sub, PM.addD, PM.addIA, PM.subD, PM.mulD, PM.mulID, PM.fdivD, PM.modD, PM.powD, PM.ltD, PM.leD, PM.gtD, PM.geD, PM.cmpD, PM.eqD, PM.neD, PM.ixD, PM.sliceD, PM.lenD, PM.intD, PM.strD, PM.listD, PM.tupD, PM.joinD, PM.rjustD, PM.negD, List.length_cons, List.length_nil, List.getElem?_cons_zero, List.getElem?_cons_succ, List.set_cons_zero, List.set_cons_succ, List.map_cons, List.map_nil, List.cons_append, List.nil_append, List.append_nil, List.replicate, List.length_map, List.length_append, if_true, if_false, ite_true, ite_false, reduceIte, Bool.false_eq_true, decide_eq_true_eq, Option.map_some, Option.map_none, Option.bind_some, Option.bind_none, Option.some.injEq, Option.join, List.isEmpty_cons, List.isEmpty_nil, List.all_cons, List.all_nil, PM.owned, PM.noLS, PM.noL, PM.noLs, Bool.or_true, Bool.true_or, Bool.or_false, Bool.false_or, Bool.and_true, Bool.true_and, Bool.and_false, Bool.false_and, Bool.not_true, Bool.not_false, List.isEmpty_map, PM.setS, PM.augIxS, PM.isD, PM.isNonD, PM.isBlD, PM.isNotD, PM.sumD, PM.allD, PM.anyD, PM.absD, PM.gcdD, PM.bitsD, PM.maxD, PM.minD, reduceCtorEq, decide_true, decide_false, eq_self, Nat.zero_add, Nat.reduceAdd, Nat.reduceSub, Nat.reduceLT, Nat.reduceEqDiff, Int.reduceAdd, Int.reduceSub, Int.reduceMul, Int.cast_ofNat_Int, Int.reduceBNe, Int.reduceBEq, Int.reduceNe, Nat.reduceBEq, PySem.sizeLine_eq, Nat.reduceLeDiff, Nat.reduceMul, Nat.reducePow, Int.reduceLE, Int.reduceLT, Int.reduceNeg, Int.reducePow, Int.reduceEq, and_self, and_true, true_and, eqv_int, decide_true, decide_false]
end LawW

namespace LawW
open PySem L2 PM
def FL (u v d : Rat) (k : Int) : Prop := 0 ≤ sq (u - k) + sq v * d ∧ sq (u - k - 1) + sq v * d < 0
theorem sq_lt' {x y : Rat} (h : x < y) : sq x < sq y := by
  unfold sq
  by_cases hx : 0 ≤ x
  · rw [if_pos hx, if_pos (by grind)]
    have := Rat.mul_pos (a := y - x) (b := y - x) (by grind) (by grind)
    have := Rat.mul_nonneg (a := y - x) (b := x) (by grind) hx
    grind
  · rw [if_neg hx]
    by_cases hy : 0 ≤ y
    · rw [if_pos hy]
      have := Rat.mul_pos (a := -x) (b := -x) (by grind) (by grind)
      have := Rat.mul_nonneg hy hy
      grind
    · rw [if_neg hy]
      have := Rat.mul_pos (a := y - x) (b := y - x) (by grind) (by grind)
      have := Rat.mul_pos (a := y - x) (b := -y) (by grind) (by grind)
      grind
theorem lt_sq {x y : Rat} (h : sq x < sq y) : x < y := by
  rcases Rat.le_total (a := y) (b := x) with z | z
  · rcases Rat.le_iff_lt_or_eq.mp z with z | z
    · have := sq_lt' z
      grind
    · rw [z] at h
      grind
  · rcases Rat.le_iff_lt_or_eq.mp z with z | z
    · exact z
    · rw [z] at h
      grind
def sqI (x : Int) : Int := if 0 ≤ x then x * x else -(x * x)
theorem cst_nn {x : Int} : (0 : Rat) ≤ (x : Rat) ↔ 0 ≤ x := by
  rw [show (0 : Rat) = ((0 : Int) : Rat) from rfl, Rat.intCast_le_intCast]
theorem cst_lt {x : Int} : (x : Rat) < 0 ↔ x < 0 := by
  rw [show (0 : Rat) = ((0 : Int) : Rat) from rfl, Rat.intCast_lt_intCast]
theorem cst_pos {x : Int} : 0 < (x : Rat) ↔ 0 < x := by
  rw [show (0 : Rat) = ((0 : Int) : Rat) from rfl, Rat.intCast_lt_intCast]
theorem div_nn {x c : Rat} (hc : 0 < c) : 0 ≤ x / c ↔ 0 ≤ x := by
  have e : x = x / c * c := by grind
  constructor
  · intro h
    rw [e]
    exact Rat.mul_nonneg h (by grind)
  · intro h
    by_cases z : 0 ≤ x / c
    · exact z
    · have := Rat.mul_pos (a := -(x / c)) (b := c) (by grind) hc
      grind
theorem div_lt {x c : Rat} (hc : 0 < c) : x / c < 0 ↔ x < 0 := by
  have := div_nn (x := x) hc
  grind
theorem sq_frac {x c : Int} (hc : 0 < c) : sq ((x : Rat) / (c : Rat)) = (sqI x : Rat) / ((c : Rat) * (c : Rat)) := by
  have c0 : (0 : Rat) < (c : Rat) := cst_pos.mpr hc
  unfold sq sqI
  by_cases h : 0 ≤ x
  · rw [if_pos h, if_pos ((div_nn c0).mpr (cst_nn.mpr h)), Rat.intCast_mul]
    grind
  · rw [if_neg h, if_neg (fun q => h (cst_nn.mp ((div_nn c0).mp q))), Rat.intCast_neg, Rat.intCast_mul]
    grind
theorem sqI_le {x y : Int} (h : x ≤ y) : sqI x ≤ sqI y := by
  unfold sqI
  by_cases hx : 0 ≤ x
  · rw [if_pos hx, if_pos (by omega)]
    exact Int.mul_le_mul h h hx (by omega)
  · rw [if_neg hx]
    have h1 : 0 ≤ x * x := Int.mul_nonneg_of_nonpos_of_nonpos (by omega) (by omega)
    by_cases hy : 0 ≤ y
    · rw [if_pos hy]
      have := Int.mul_nonneg hy hy
      omega
    · rw [if_neg hy]
      have := Int.mul_le_mul (show -y ≤ -x by omega) (show -y ≤ -x by omega) (by omega) (by omega)
      rw [Int.neg_mul_neg, Int.neg_mul_neg] at this
      omega
theorem fl_mk {u v d : Rat} {a c T k : Int} (hc : 0 < c) (eu : u = (a : Rat) / (c : Rat)) (et : sq v * d = (T : Rat) / ((c : Rat) * (c : Rat))) (h1 : 0 ≤ sqI (a - k * c) + T) (h2 : sqI (a - k * c - c) + T < 0) : FL u v d k := by
  have c0 : (0 : Rat) < (c : Rat) := cst_pos.mpr hc
  have cc : (0 : Rat) < (c : Rat) * (c : Rat) := mpos c0 c0
  have e1 : u - k = ((a - k * c : Int) : Rat) / (c : Rat) := by
    rw [eu, Rat.intCast_sub, Rat.intCast_mul]
    grind
  have e2 : u - k - 1 = ((a - k * c - c : Int) : Rat) / (c : Rat) := by
    rw [e1, Rat.intCast_sub (a - k * c)]
    grind
  have s : ∀ x : Int, (sqI x : Rat) / ((c : Rat) * (c : Rat)) + (T : Rat) / ((c : Rat) * (c : Rat)) = ((sqI x + T : Int) : Rat) / ((c : Rat) * (c : Rat)) := fun x => by
    rw [Rat.intCast_add]
    grind
  refine ⟨?_, ?_⟩
  · rw [e1, sq_frac hc, et, s, div_nn cc, cst_nn]
    exact h1
  · rw [e2, sq_frac hc, et, s, div_lt cc, cst_lt]
    exact h2
theorem div_bd {x c : Int} (hc : 0 < c) : x / c * c ≤ x ∧ x < x / c * c + c := by
  have h1 := Int.ediv_mul_add_emod x c
  have h2 := Int.emod_nonneg x (show c ≠ 0 by omega)
  have h3 := Int.emod_lt_of_pos x hc
  omega
theorem fl_pos {u v d : Rat} {a c N s : Int} (hc : 0 < c) (eu : u = (a : Rat) / (c : Rat)) (et : v * v * d = (N : Rat) / ((c : Rat) * (c : Rat))) (hv : 0 ≤ v) (s0 : 0 ≤ s) (s1 : s * s ≤ N) (s2 : N < (s + 1) * (s + 1)) : FL u v d ((a + s) / c) := by
  obtain ⟨b1, b2⟩ := div_bd (x := a + s) hc
  refine fl_mk (T := N) hc eu (by unfold sq; rw [if_pos hv]; exact et) ?_ ?_
  · have h := sqI_le (x := -s) (y := a - (a + s) / c * c) (by omega)
    have e : -(s * s) ≤ sqI (-s) := by
      unfold sqI
      split
      · have : s = 0 := by omega
        subst this
        decide
      · rw [Int.neg_mul_neg]
        exact Int.le_refl _
    omega
  · have h := sqI_le (x := a - (a + s) / c * c - c) (y := -(s + 1)) (by omega)
    have e : sqI (-(s + 1)) = -((s + 1) * (s + 1)) := by
      unfold sqI
      rw [if_neg (by omega), Int.neg_mul_neg]
    omega
theorem fl_neg {u v d : Rat} {a c N r : Int} (hc : 0 < c) (eu : u = (a : Rat) / (c : Rat)) (et : v * v * d = (N : Rat) / ((c : Rat) * (c : Rat))) (hv : v ≤ 0) (N0 : 0 ≤ N) (s0 : 0 ≤ r) (s1 : N ≤ r * r) (s2 : r = 0 ∨ (r - 1) * (r - 1) < N) : FL u v d ((a - r) / c) := by
  obtain ⟨b1, b2⟩ := div_bd (x := a - r) hc
  refine fl_mk (T := -N) hc eu ?_ ?_ ?_
  · have : sq v = -(v * v) := by
      unfold sq
      split
      · have : v = 0 := by grind
        subst this
        grind
      · rfl
    rw [this, Rat.intCast_neg]
    grind
  · have h := sqI_le (x := r) (y := a - (a - r) / c * c) (by omega)
    have e : sqI r = r * r := by
      unfold sqI
      rw [if_pos s0]
    omega
  · have h := sqI_le (x := a - (a - r) / c * c - c) (y := r - 1) (by omega)
    rcases s2 with z | z
    · subst z
      have : sqI (0 - 1) = -1 := rfl
      omega
    · have e : sqI (r - 1) ≤ (r - 1) * (r - 1) := by
        unfold sqI
        split
        · exact Int.le_refl _
        · have : 0 ≤ (r - 1) * (r - 1) := Int.mul_nonneg_of_nonpos_of_nonpos (by omega) (by omega)
          omega
      omega
theorem cast_lt {a b : Int} : (a : Rat) < (b : Rat) ↔ a < b := Rat.intCast_lt_intCast
theorem fl_le {u v d : Rat} {k k' : Int} (h : FL u v d k) (h' : FL u v d k') : k ≤ k' := by
  have : u - k' - 1 < u - k := lt_sq (by have := h.1; have := h'.2; grind)
  have : (k : Rat) < ((k' + 1 : Int) : Rat) := by rw [Rat.intCast_add]; grind
  have := cast_lt.mp this
  omega
theorem fl_uniq {u v d : Rat} {k k' : Int} (h : FL u v d k) (h' : FL u v d k') : k = k' := Int.le_antisymm (fl_le h h') (fl_le h' h)
theorem sq_neg (x : Rat) : sq (-x) = -sq x := by
  unfold sq
  by_cases h : 0 ≤ x
  · by_cases k : 0 ≤ -x
    · have : x = 0 := by grind
      subst this
      grind
    · rw [if_pos h, if_neg k]; grind
  · rw [if_neg h, if_pos (by grind)]; grind
theorem fl_up {u v d : Rat} {F k : Int} (h : FL u v d F) (h' : FL (-u) (-v) d k) : -k = if 0 < SS (u - F) v d then F + 1 else F := by
  obtain ⟨a1, a2⟩ := h
  obtain ⟨b1, b2⟩ := h'
  rw [sq_neg v] at b1 b2
  rw [show -u - (k : Rat) = -(u + k) by grind, sq_neg] at b1
  rw [show -u - (k : Rat) - 1 = -(u + k + 1) by grind, sq_neg] at b2
  -- sq (u + k) + t ≤ 0 < sq (u + k + 1) + t
  have c1 : u - F - 1 < u + k + 1 := lt_sq (by grind)
  have c1' : ((-k : Int) : Rat) < ((F + 2 : Int) : Rat) := by rw [Rat.intCast_add, Rat.intCast_neg]; grind
  have d1 := cast_lt.mp c1'
  by_cases z : 0 < SS (u - F) v d
  · rw [if_pos z]
    unfold SS at z
    have z := sg_pos.mp z
    have c2 : u + k < u - F := lt_sq (by grind)
    have c2' : (F : Rat) < ((-k : Int) : Rat) := by rw [Rat.intCast_neg]; grind
    have := cast_lt.mp c2'
    omega
  · rw [if_neg z]
    unfold SS at z
    have z : sq (u - F) + sq v * d ≤ 0 := by
      have := mt sg_pos.mpr z
      grind
    have c2 : u - F < u + k + 1 := lt_sq (by grind)
    have c2' : ((-k : Int) : Rat) < ((F + 1 : Int) : Rat) := by rw [Rat.intCast_add, Rat.intCast_neg]; grind
    have d2 := cast_lt.mp c2'
    have c3 : ¬ u - F < u + k := fun q => by have := sq_lt' q; grind
    have c3' : ¬ ((-k : Int) : Rat) < (F : Rat) := fun q => c3 (by rw [Rat.intCast_neg] at q; grind)
    have d3 := mt cast_lt.mpr c3'
    omega
end LawW

namespace LawW
open PySem L2 PM
theorem nn_log {n : Nat} {x : Int} (h : nb n x) (hn : n < 9000) : x.natAbs.log2 < 9000 := by have := nb_log h; omega
theorem root_frac (u v d : Rat) : u = ((u.num * v.den * d.den : Int) : Rat) / ((u.den * v.den * d.den : Int) : Rat) ∧
    v * v * d = (((u.den * v.num) * (u.den * v.num) * d.num * d.den : Int) : Rat) / (((u.den * v.den * d.den : Int) : Rat) * ((u.den * v.den * d.den : Int) : Rat)) := by
  obtain ⟨eu, zu⟩ := rat_fr u
  obtain ⟨ev, zv⟩ := rat_fr v
  obtain ⟨ed, zd⟩ := rat_fr d
  simp only [Rat.intCast_mul, Rat.intCast_natCast]
  generalize (u.num : Rat) = a1 at *
  generalize (u.den : Rat) = a2 at *
  generalize (v.num : Rat) = b1 at *
  generalize (v.den : Rat) = b2 at *
  generalize (d.num : Rat) = c1 at *
  generalize (d.den : Rat) = c2 at *
  refine ⟨?_, ?_⟩
  · rw [eu]; grind
  · rw [ev, ed]; grind
theorem law_frac (u v d : Rat) : u = ((u.num * (v.den * v.den * d.den) : Int) : Rat) / ((u.den * (v.den * v.den * d.den) : Int) : Rat) ∧
    v * v * d = ((v.num * v.num * d.num * (v.den * v.den * d.den) * u.den * u.den : Int) : Rat) / (((u.den * (v.den * v.den * d.den) : Int) : Rat) * ((u.den * (v.den * v.den * d.den) : Int) : Rat)) := by
  obtain ⟨eu, zu⟩ := rat_fr u
  obtain ⟨ev, zv⟩ := rat_fr v
  obtain ⟨ed, zd⟩ := rat_fr d
  simp only [Rat.intCast_mul, Rat.intCast_natCast]
  generalize (u.num : Rat) = a1 at *
  generalize (u.den : Rat) = a2 at *
  generalize (v.num : Rat) = b1 at *
  generalize (v.den : Rat) = b2 at *
  generalize (d.num : Rat) = c1 at *
  generalize (d.den : Rat) = c2 at *
  refine ⟨?_, ?_⟩
  · rw [eu]; grind
  · rw [ev, ed]; grind
theorem num_nn {d : Rat} (h : 0 ≤ d) : 0 ≤ d.num := by
  have := rneg (r := d)
  rcases Int.lt_or_le d.num 0 with z | z
  · have := this.mpr z
    grind
  · exact z
theorem isq_nn {N : Int} (h : 0 ≤ N) : ∃ s : Int, s = ((Float64.isqrt N.toNat : Nat) : Int) ∧ 0 ≤ s ∧ s * s ≤ N ∧ N < (s + 1) * (s + 1) := by
  obtain ⟨a, b⟩ := isq_ok N.toNat
  refine ⟨_, rfl, by omega, ?_, ?_⟩
  · have : ((Float64.isqrt N.toNat * Float64.isqrt N.toNat : Nat) : Int) ≤ (N.toNat : Int) := by omega
    rw [Int.natCast_mul, Int.toNat_of_nonneg h] at this
    exact this
  · have : (N.toNat : Int) < (((Float64.isqrt N.toNat + 1) * (Float64.isqrt N.toNat + 1) : Nat) : Int) := by omega
    rw [Int.natCast_mul, Int.toNat_of_nonneg h, Int.natCast_add] at this
    exact this
theorem nb_small {s N : Int} {n : Nat} (h0 : 0 ≤ s) (h : s * s ≤ N) (k : nb n N) : nb n s := by
  unfold nb at *
  have : s ≤ s * s := by
    rcases Int.lt_or_le s 1 with z | z
    · have : s = 0 := by omega
      subst this
      decide
    · have := Int.mul_le_mul_of_nonneg_left z h0
      omega
  omega
theorem as_one {u v d : Rat} (hu : bs u ≤ 900) (hv : bs v ≤ 300) (hd : bs d ≤ 900) : M_as_one_root [W u, W v, W d] = .ok (false, .tup [.int (u.num * v.den * d.den), .int (sg v.num * sg d.num), .int ((u.den * v.num) * (u.den * v.num) * d.num * d.den), .int (u.den * v.den * d.den)]) := by
  have fu := bs_fr u
  have fv := bs_fr v
  have fd := bs_fr d
  have k1 := nb_mul fu.b fv.b
  have k2 := nb_mul fu.b fv.a
  have k3 := nb_mul k2 k2
  have k4 := nb_mul k3 fd.a
  have k5 := nb_mul fu.a fv.b
  have m1 := mul_nb fu.b fv.b (by omega)
  have m2 := mul_nb k1 fd.b (by omega)
  have m3 := mul_nb fu.b fv.a (by omega)
  have m4 := mul_nb k3 fd.a (by omega)
  have m5 := mul_nb k4 fd.b (by omega)
  have m6 := mul_nb fu.a fv.b (by omega)
  have m7 := mul_nb k5 fd.b (by omega)
  have m8 : ((u.den : Int) * v.num).natAbs.log2 < 1000000 := by have := nb_log (x := (u.den : Int) * v.num) k2; omega
  have m9 : mulOk (sg v.num) (sg d.num) = true := by
    rcases sg3 v with ⟨v1, v2⟩ | ⟨v1, v2⟩ | ⟨v1, v2⟩ <;> rw [v2] <;> exact mulOk_l (by decide) (by decide)
  dsimp only at m1 m2 m3 m4 m5 m6 m7
  have sv := sign_W v
  have sd := sign_W d
  unfold W T at sv sd
  unfold M_as_one_root S_as_one_root W T
  simp only [PM.tgT, PM.tgs, PM.callE, PM.runF, PM.initE, PM.seqS, PM.asgS, PM.tgS, PM.parS, PM.appS, PM.augS, PM.dropS, PM.retS, PM.retN, PM.retV, PM.ifS, PM.forS, PM.M.thenS, PM.M.bind, PM.M.lift, PM.ret, PM.cst, PM.var, PM.pvar, PM.pk, PM.bin, PM.asB, PM.truth, PM.tru, PM.tand, PM.tor, PM.tnot, PM.vand, PM.vor, PM.vnot, PM.iff, PM.sli, PM.ono, PM.oin, PM.acons, PM.anil, PM.cnil, PM.cval, PM.cvw, PM.lstE, PM.tupE, PM.blt, PM.isi, PM.una, PM.smE, PM.src, PM.rng1, PM.rng2, PM.skip, PM.brkS, PM.cntS, PM.tgN, PM.itemsD, PM.tyD, PM.Ty.sub, PM.addD, PM.addIA, PM.subD, PM.mulD, PM.mulID, PM.fdivD, PM.modD, PM.powD, PM.ltD, PM.leD, PM.gtD, PM.geD, PM.cmpD, PM.eqD, PM.neD, PM.ixD, PM.sliceD, PM.lenD, PM.intD, PM.strD, PM.listD, PM.tupD, PM.joinD, PM.rjustD, PM.negD, List.length_cons, List.length_nil, List.getElem?_cons_zero, List.getElem?_cons_succ, List.set_cons_zero, List.set_cons_succ, List.map_cons, List.map_nil, List.cons_append, List.nil_append, List.append_nil, List.replicate, List.length_map, List.length_append, if_true, if_false, ite_true, ite_false, reduceIte, Bool.false_eq_true, decide_eq_true_eq, Option.map_some, Option.map_none, Option.bind_some, Option.bind_none, Option.some.injEq, Option.join, List.isEmpty_cons, List.isEmpty_nil, List.all_cons, List.all_nil, PM.owned, PM.noLS, PM.noL, PM.noLs, Bool.or_true, Bool.true_or, Bool.or_false, Bool.false_or, Bool.and_true, Bool.true_and, Bool.and_false, Bool.false_and, Bool.not_true, Bool.not_false, List.isEmpty_map, PM.setS, PM.augIxS, PM.isD, PM.isNonD, PM.isBlD, PM.isNotD, PM.sumD, PM.allD, PM.anyD, PM.absD, PM.gcdD, PM.bitsD, PM.maxD, PM.minD, reduceCtorEq, decide_true, decide_false, eq_self, Nat.zero_add, Nat.reduceAdd, Nat.reduceSub, Nat.reduceLT, Nat.reduceEqDiff, Int.reduceAdd, Int.reduceSub, Int.reduceMul, Int.cast_ofNat_Int, Int.reduceBNe, Int.reduceBEq, Int.reduceNe, Nat.reduceBEq, PySem.sizeLine_eq, Nat.reduceLeDiff, Nat.reduceMul, Nat.reducePow, Int.reduceLE, Int.reduceLT, Int.reduceNeg, Int.reducePow, Int.reduceEq, and_self, and_true, true_and, PM.lcE, PM.compF, PM.yes, PM.wipeE, PM.restE, PM.clean, PM.forF, PM.blsD, decide_eq_true_eq, List.all_cons, List.all_nil, id_eq, PM.cut, HT.sIx, L2.atI, L2.ixN, Int.reduceToNat, Nat.min_def, List.drop_succ_cons, List.drop_zero, List.drop_nil, List.take_nil, Nat.reduceSub, List.take_succ_cons, List.take_zero, Option.bind_some, Option.bind_none, and_false, false_and, Nat.reduceLT, PM.revD, PM.rev0D, List.reverse_cons, List.reverse_nil, pow2D, sv, sd, m1, m2, m3, m4, m5, m6, m7, m8, m9, noW]
theorem floor_prog {u v d : Rat} (hu : bs u ≤ 900) (hv : bs v ≤ 300) (hd : bs d ≤ 900) (h0 : 0 ≤ d) : ∃ k, FL u v d k ∧ M_floor_of_sum [W u, W v, W d] = .ok (false, .int k) := by
  have ao := as_one hu hv hd
  have fu := bs_fr u
  have fv := bs_fr v
  have fd := bs_fr d
  have pu : (0 : Int) < u.den := by have := u.den_pos; omega
  have pv : (0 : Int) < v.den := by have := v.den_pos; omega
  have pd : (0 : Int) < d.den := by have := d.den_pos; omega
  obtain ⟨eu, et⟩ := root_frac u v d
  have hc : (0 : Int) < u.den * v.den * d.den := Int.mul_pos (Int.mul_pos pu pv) pd
  have bc : nb 2200 ((u.den : Int) * v.den * d.den) := nb_up (nb_mul (nb_mul fu.b fv.b) fd.b) (by omega)
  have bN : nb 4500 (((u.den : Int) * v.num) * (u.den * v.num) * d.num * d.den) := nb_up (nb_mul (nb_mul (nb_mul (nb_mul fu.b fv.a) (nb_mul fu.b fv.a)) fd.a) fd.b) (by omega)
  have hN : (0 : Int) ≤ ((u.den : Int) * v.num) * (u.den * v.num) * d.num * d.den := by
    refine Int.mul_nonneg (Int.mul_nonneg ?_ (num_nn h0)) (by omega)
    rcases Int.le_total 0 ((u.den : Int) * v.num) with z | z
    · exact Int.mul_nonneg z z
    · exact Int.mul_nonneg_of_nonpos_of_nonpos z z
  have z0 : v = 0 ∨ d = 0 → ((u.den : Int) * v.num) * (u.den * v.num) * d.num * d.den = 0 := fun h => by
    rcases h with h | h
    · rw [h]; simp
    · rw [h]; simp
  generalize (u.num : Int) * v.den * d.den = a at *
  generalize (u.den : Int) * v.den * d.den = c at *
  generalize ((u.den : Int) * v.num) * (u.den * v.num) * d.num * d.den = N at *
  have lc := nn_log bc (by decide)
  have lN : N.natAbs.log2 < 10000 := by have := nb_log bN; omega
  obtain ⟨s, es, s0, s1, s2⟩ := isq_nn hN
  have bs' := nb_small s0 s1 bN
  have ms : mulOk s s = true := mul_nb bs' bs' (by decide)
  have pos : ∀ w : Int, 0 ≤ w → w < 2 → sg v.num * sg d.num = w → M_floor_of_sum [W u, W v, W d] = .ok (false, .int ((a + w * s) / c)) := fun w w0 w1 hw => by
    have mw : mulOk w s = true := mulOk_l (by omega) (by omega)
    rw [hw] at ao
    unfold M_floor_of_sum S_floor_of_sum
    simp only [PM.tgT, PM.tgs, PM.callE, PM.runF, PM.initE, PM.seqS, PM.asgS, PM.tgS, PM.parS, PM.appS, PM.augS, PM.dropS, PM.retS, PM.retN, PM.retV, PM.ifS, PM.forS, PM.M.thenS, PM.M.bind, PM.M.lift, PM.ret, PM.cst, PM.var, PM.pvar, PM.pk, PM.bin, PM.asB, PM.truth, PM.tru, PM.tand, PM.tor, PM.tnot, PM.vand, PM.vor, PM.vnot, PM.iff, PM.sli, PM.ono, PM.oin, PM.acons, PM.anil, PM.cnil, PM.cval, PM.cvw, PM.lstE, PM.tupE, PM.blt, PM.isi, PM.una, PM.smE, PM.src, PM.rng1, PM.rng2, PM.skip, PM.brkS, PM.cntS, PM.tgN, PM.itemsD, PM.tyD, PM.Ty.sub, PM.addD, PM.addIA, PM.subD, PM.mulD, PM.mulID, PM.fdivD, PM.modD, PM.powD, PM.ltD, PM.leD, PM.gtD, PM.geD, PM.cmpD, PM.eqD, PM.neD, PM.ixD, PM.sliceD, PM.lenD, PM.intD, PM.strD, PM.listD, PM.tupD, PM.joinD, PM.rjustD, PM.negD, List.length_cons, List.length_nil, List.getElem?_cons_zero, List.getElem?_cons_succ, List.set_cons_zero, List.set_cons_succ, List.map_cons, List.map_nil, List.cons_append, List.nil_append, List.append_nil, List.replicate, List.length_map, List.length_append, if_true, if_false, ite_true, ite_false, reduceIte, Bool.false_eq_true, decide_eq_true_eq, Option.map_some, Option.map_none, Option.bind_some, Option.bind_none, Option.some.injEq, Option.join, List.isEmpty_cons, List.isEmpty_nil, List.all_cons, List.all_nil, PM.owned, PM.noLS, PM.noL, PM.noLs, Bool.or_true, Bool.true_or, Bool.or_false, Bool.false_or, Bool.and_true, Bool.true_and, Bool.and_false, Bool.false_and, Bool.not_true, Bool.not_false, List.isEmpty_map, PM.setS, PM.augIxS, PM.isD, PM.isNonD, PM.isBlD, PM.isNotD, PM.sumD, PM.allD, PM.anyD, PM.absD, PM.gcdD, PM.bitsD, PM.maxD, PM.minD, reduceCtorEq, decide_true, decide_false, eq_self, Nat.zero_add, Nat.reduceAdd, Nat.reduceSub, Nat.reduceLT, Nat.reduceEqDiff, Int.reduceAdd, Int.reduceSub, Int.reduceMul, Int.cast_ofNat_Int, Int.reduceBNe, Int.reduceBEq, Int.reduceNe, Nat.reduceBEq, PySem.sizeLine_eq, Nat.reduceLeDiff, Nat.reduceMul, Nat.reducePow, Int.reduceLE, Int.reduceLT, Int.reduceNeg, Int.reducePow, Int.reduceEq, and_self, and_true, true_and, PM.lcE, PM.compF, PM.yes, PM.wipeE, PM.restE, PM.clean, PM.forF, PM.blsD, decide_eq_true_eq, List.all_cons, List.all_nil, id_eq, PM.cut, HT.sIx, L2.atI, L2.ixN, Int.reduceToNat, Nat.min_def, List.drop_succ_cons, List.drop_zero, List.drop_nil, List.take_nil, Nat.reduceSub, List.take_succ_cons, List.take_zero, Option.bind_some, Option.bind_none, and_false, false_and, Nat.reduceLT, PM.revD, PM.rev0D, List.reverse_cons, List.reverse_nil, isqD, ao, noW, decide_eq_true w0, hN, lN, ← es, mw, hc, lc]
  have hz : v = 0 ∨ d = 0 → FL u v d ((a + 0 * s) / c) := fun h => by
    have hN0 := z0 h
    have e : a + 0 * s = a + 0 := by omega
    rcases Rat.le_total (a := 0) (b := v) with q | q
    · rw [e]
      exact fl_pos hc eu et q (by decide) (by omega) (by omega)
    · rw [show a + 0 * s = a - 0 by omega]
      exact fl_neg hc eu et q hN (by decide) (by omega) (.inl rfl)
  rcases sg3 d with ⟨d1, d2⟩ | ⟨d1, d2⟩ | ⟨d1, d2⟩
  · rcases sg3 v with ⟨v1, v2⟩ | ⟨v1, v2⟩ | ⟨v1, v2⟩
    · refine ⟨_, ?_, pos 1 (by decide) (by decide) (by rw [v2, d2]; rfl)⟩
      rw [Int.one_mul]
      exact fl_pos hc eu et (by grind) s0 s1 s2
    · have hw : sg v.num * sg d.num = -1 := by rw [v2, d2]; rfl
      rw [hw] at ao
      by_cases q : s * s = N
      · have ru : M_root_up [.int N] = .ok (false, .int s) := by
          unfold M_root_up S_root_up
          simp only [PM.tgT, PM.tgs, PM.callE, PM.runF, PM.initE, PM.seqS, PM.asgS, PM.tgS, PM.parS, PM.appS, PM.augS, PM.dropS, PM.retS, PM.retN, PM.retV, PM.ifS, PM.forS, PM.M.thenS, PM.M.bind, PM.M.lift, PM.ret, PM.cst, PM.var, PM.pvar, PM.pk, PM.bin, PM.asB, PM.truth, PM.tru, PM.tand, PM.tor, PM.tnot, PM.vand, PM.vor, PM.vnot, PM.iff, PM.sli, PM.ono, PM.oin, PM.acons, PM.anil, PM.cnil, PM.cval, PM.cvw, PM.lstE, PM.tupE, PM.blt, PM.isi, PM.una, PM.smE, PM.src, PM.rng1, PM.rng2, PM.skip, PM.brkS, PM.cntS, PM.tgN, PM.itemsD, PM.tyD, PM.Ty.sub, PM.addD, PM.addIA, PM.subD, PM.mulD, PM.mulID, PM.fdivD, PM.modD, PM.powD, PM.ltD, PM.leD, PM.gtD, PM.geD, PM.cmpD, PM.eqD, PM.neD, PM.ixD, PM.sliceD, PM.lenD, PM.intD, PM.strD, PM.listD, PM.tupD, PM.joinD, PM.rjustD, PM.negD, List.length_cons, List.length_nil, List.getElem?_cons_zero, List.getElem?_cons_succ, List.set_cons_zero, List.set_cons_succ, List.map_cons, List.map_nil, List.cons_append, List.nil_append, List.append_nil, List.replicate, List.length_map, List.length_append, if_true, if_false, ite_true, ite_false, reduceIte, Bool.false_eq_true, decide_eq_true_eq, Option.map_some, Option.map_none, Option.bind_some, Option.bind_none, Option.some.injEq, Option.join, List.isEmpty_cons, List.isEmpty_nil, List.all_cons, List.all_nil, PM.owned, PM.noLS, PM.noL, PM.noLs, Bool.or_true, Bool.true_or, Bool.or_false, Bool.false_or, Bool.and_true, Bool.true_and, Bool.and_false, Bool.false_and, Bool.not_true, Bool.not_false, List.isEmpty_map, PM.setS, PM.augIxS, PM.isD, PM.isNonD, PM.isBlD, PM.isNotD, PM.sumD, PM.allD, PM.anyD, PM.absD, PM.gcdD, PM.bitsD, PM.maxD, PM.minD, reduceCtorEq, decide_true, decide_false, eq_self, Nat.zero_add, Nat.reduceAdd, Nat.reduceSub, Nat.reduceLT, Nat.reduceEqDiff, Int.reduceAdd, Int.reduceSub, Int.reduceMul, Int.cast_ofNat_Int, Int.reduceBNe, Int.reduceBEq, Int.reduceNe, Nat.reduceBEq, PySem.sizeLine_eq, Nat.reduceLeDiff, Nat.reduceMul, Nat.reducePow, Int.reduceLE, Int.reduceLT, Int.reduceNeg, Int.reducePow, Int.reduceEq, and_self, and_true, true_and, PM.lcE, PM.compF, PM.yes, PM.wipeE, PM.restE, PM.clean, PM.forF, PM.blsD, decide_eq_true_eq, List.all_cons, List.all_nil, id_eq, PM.cut, HT.sIx, L2.atI, L2.ixN, Int.reduceToNat, Nat.min_def, List.drop_succ_cons, List.drop_zero, List.drop_nil, List.take_nil, Nat.reduceSub, List.take_succ_cons, List.take_zero, Option.bind_some, Option.bind_none, and_false, false_and, Nat.reduceLT, PM.revD, PM.rev0D, List.reverse_cons, List.reverse_nil, isqD, hN, lN, ← es, ms, eqv_int, decide_eq_true q]
        refine ⟨(a - s) / c, fl_neg hc eu et (by grind) hN s0 (by omega) ?_, ?_⟩
        · rcases Int.lt_or_le s 1 with z | z
          · exact .inl (by omega)
          · refine .inr ?_
            have : (s - 1) * (s - 1) = s * s - 2 * s + 1 := by grind
            omega
        · unfold M_floor_of_sum S_floor_of_sum
          simp only [PM.tgT, PM.tgs, PM.callE, PM.runF, PM.initE, PM.seqS, PM.asgS, PM.tgS, PM.parS, PM.appS, PM.augS, PM.dropS, PM.retS, PM.retN, PM.retV, PM.ifS, PM.forS, PM.M.thenS, PM.M.bind, PM.M.lift, PM.ret, PM.cst, PM.var, PM.pvar, PM.pk, PM.bin, PM.asB, PM.truth, PM.tru, PM.tand, PM.tor, PM.tnot, PM.vand, PM.vor, PM.vnot, PM.iff, PM.sli, PM.ono, PM.oin, PM.acons, PM.anil, PM.cnil, PM.cval, PM.cvw, PM.lstE, PM.tupE, PM.blt, PM.isi, PM.una, PM.smE, PM.src, PM.rng1, PM.rng2, PM.skip, PM.brkS, PM.cntS, PM.tgN, PM.itemsD, PM.tyD, PM.Ty.sub, PM.addD, PM.addIA, PM.subD, PM.mulD, PM.mulID, PM.fdivD, PM.modD, PM.powD, PM.ltD, PM.leD, PM.gtD, PM.geD, PM.cmpD, PM.eqD, PM.neD, PM.ixD, PM.sliceD, PM.lenD, PM.intD, PM.strD, PM.listD, PM.tupD, PM.joinD, PM.rjustD, PM.negD, List.length_cons, List.length_nil, List.getElem?_cons_zero, List.getElem?_cons_succ, List.set_cons_zero, List.set_cons_succ, List.map_cons, List.map_nil, List.cons_append, List.nil_append, List.append_nil, List.replicate, List.length_map, List.length_append, if_true, if_false, ite_true, ite_false, reduceIte, Bool.false_eq_true, decide_eq_true_eq, Option.map_some, Option.map_none, Option.bind_some, Option.bind_none, Option.some.injEq, Option.join, List.isEmpty_cons, List.isEmpty_nil, List.all_cons, List.all_nil, PM.owned, PM.noLS, PM.noL, PM.noLs, Bool.or_true, Bool.true_or, Bool.or_false, Bool.false_or, Bool.and_true, Bool.true_and, Bool.and_false, Bool.false_and, Bool.not_true, Bool.not_false, List.isEmpty_map, PM.setS, PM.augIxS, PM.isD, PM.isNonD, PM.isBlD, PM.isNotD, PM.sumD, PM.allD, PM.anyD, PM.absD, PM.gcdD, PM.bitsD, PM.maxD, PM.minD, reduceCtorEq, decide_true, decide_false, eq_self, Nat.zero_add, Nat.reduceAdd, Nat.reduceSub, Nat.reduceLT, Nat.reduceEqDiff, Int.reduceAdd, Int.reduceSub, Int.reduceMul, Int.cast_ofNat_Int, Int.reduceBNe, Int.reduceBEq, Int.reduceNe, Nat.reduceBEq, PySem.sizeLine_eq, Nat.reduceLeDiff, Nat.reduceMul, Nat.reducePow, Int.reduceLE, Int.reduceLT, Int.reduceNeg, Int.reducePow, Int.reduceEq, and_self, and_true, true_and, PM.lcE, PM.compF, PM.yes, PM.wipeE, PM.restE, PM.clean, PM.forF, PM.blsD, decide_eq_true_eq, List.all_cons, List.all_nil, id_eq, PM.cut, HT.sIx, L2.atI, L2.ixN, Int.reduceToNat, Nat.min_def, List.drop_succ_cons, List.drop_zero, List.drop_nil, List.take_nil, Nat.reduceSub, List.take_succ_cons, List.take_zero, Option.bind_some, Option.bind_none, and_false, false_and, Nat.reduceLT, PM.revD, PM.rev0D, List.reverse_cons, List.reverse_nil, ao, noW, ru, hc, lc, show decide ((0 : Int) ≤ -1) = false by decide]
      · have ru : M_root_up [.int N] = .ok (false, .int (s + 1)) := by
          unfold M_root_up S_root_up
          simp only [PM.tgT, PM.tgs, PM.callE, PM.runF, PM.initE, PM.seqS, PM.asgS, PM.tgS, PM.parS, PM.appS, PM.augS, PM.dropS, PM.retS, PM.retN, PM.retV, PM.ifS, PM.forS, PM.M.thenS, PM.M.bind, PM.M.lift, PM.ret, PM.cst, PM.var, PM.pvar, PM.pk, PM.bin, PM.asB, PM.truth, PM.tru, PM.tand, PM.tor, PM.tnot, PM.vand, PM.vor, PM.vnot, PM.iff, PM.sli, PM.ono, PM.oin, PM.acons, PM.anil, PM.cnil, PM.cval, PM.cvw, PM.lstE, PM.tupE, PM.blt, PM.isi, PM.una, PM.smE, PM.src, PM.rng1, PM.rng2, PM.skip, PM.brkS, PM.cntS, PM.tgN, PM.itemsD, PM.tyD, PM.Ty.sub, PM.addD, PM.addIA, PM.subD, PM.mulD, PM.mulID, PM.fdivD, PM.modD, PM.powD, PM.ltD, PM.leD, PM.gtD, PM.geD, PM.cmpD, PM.eqD, PM.neD, PM.ixD, PM.sliceD, PM.lenD, PM.intD, PM.strD, PM.listD, PM.tupD, PM.joinD, PM.rjustD, PM.negD, List.length_cons, List.length_nil, List.getElem?_cons_zero, List.getElem?_cons_succ, List.set_cons_zero, List.set_cons_succ, List.map_cons, List.map_nil, List.cons_append, List.nil_append, List.append_nil, List.replicate, List.length_map, List.length_append, if_true, if_false, ite_true, ite_false, reduceIte, Bool.false_eq_true, decide_eq_true_eq, Option.map_some, Option.map_none, Option.bind_some, Option.bind_none, Option.some.injEq, Option.join, List.isEmpty_cons, List.isEmpty_nil, List.all_cons, List.all_nil, PM.owned, PM.noLS, PM.noL, PM.noLs, Bool.or_true, Bool.true_or, Bool.or_false, Bool.false_or, Bool.and_true, Bool.true_and, Bool.and_false, Bool.false_and, Bool.not_true, Bool.not_false, List.isEmpty_map, PM.setS, PM.augIxS, PM.isD, PM.isNonD, PM.isBlD, PM.isNotD, PM.sumD, PM.allD, PM.anyD, PM.absD, PM.gcdD, PM.bitsD, PM.maxD, PM.minD, reduceCtorEq, decide_true, decide_false, eq_self, Nat.zero_add, Nat.reduceAdd, Nat.reduceSub, Nat.reduceLT, Nat.reduceEqDiff, Int.reduceAdd, Int.reduceSub, Int.reduceMul, Int.cast_ofNat_Int, Int.reduceBNe, Int.reduceBEq, Int.reduceNe, Nat.reduceBEq, PySem.sizeLine_eq, Nat.reduceLeDiff, Nat.reduceMul, Nat.reducePow, Int.reduceLE, Int.reduceLT, Int.reduceNeg, Int.reducePow, Int.reduceEq, and_self, and_true, true_and, PM.lcE, PM.compF, PM.yes, PM.wipeE, PM.restE, PM.clean, PM.forF, PM.blsD, decide_eq_true_eq, List.all_cons, List.all_nil, id_eq, PM.cut, HT.sIx, L2.atI, L2.ixN, Int.reduceToNat, Nat.min_def, List.drop_succ_cons, List.drop_zero, List.drop_nil, List.take_nil, Nat.reduceSub, List.take_succ_cons, List.take_zero, Option.bind_some, Option.bind_none, and_false, false_and, Nat.reduceLT, PM.revD, PM.rev0D, List.reverse_cons, List.reverse_nil, isqD, hN, lN, ← es, ms, eqv_int, decide_eq_false q]
        refine ⟨(a - (s + 1)) / c, fl_neg hc eu et (by grind) hN (by omega) (by omega) (.inr ?_), ?_⟩
        · rw [show s + 1 - 1 = s by omega]
          omega
        · unfold M_floor_of_sum S_floor_of_sum
          simp only [PM.tgT, PM.tgs, PM.callE, PM.runF, PM.initE, PM.seqS, PM.asgS, PM.tgS, PM.parS, PM.appS, PM.augS, PM.dropS, PM.retS, PM.retN, PM.retV, PM.ifS, PM.forS, PM.M.thenS, PM.M.bind, PM.M.lift, PM.ret, PM.cst, PM.var, PM.pvar, PM.pk, PM.bin, PM.asB, PM.truth, PM.tru, PM.tand, PM.tor, PM.tnot, PM.vand, PM.vor, PM.vnot, PM.iff, PM.sli, PM.ono, PM.oin, PM.acons, PM.anil, PM.cnil, PM.cval, PM.cvw, PM.lstE, PM.tupE, PM.blt, PM.isi, PM.una, PM.smE, PM.src, PM.rng1, PM.rng2, PM.skip, PM.brkS, PM.cntS, PM.tgN, PM.itemsD, PM.tyD, PM.Ty.sub, PM.addD, PM.addIA, PM.subD, PM.mulD, PM.mulID, PM.fdivD, PM.modD, PM.powD, PM.ltD, PM.leD, PM.gtD, PM.geD, PM.cmpD, PM.eqD, PM.neD, PM.ixD, PM.sliceD, PM.lenD, PM.intD, PM.strD, PM.listD, PM.tupD, PM.joinD, PM.rjustD, PM.negD, List.length_cons, List.length_nil, List.getElem?_cons_zero, List.getElem?_cons_succ, List.set_cons_zero, List.set_cons_succ, List.map_cons, List.map_nil, List.cons_append, List.nil_append, List.append_nil, List.replicate, List.length_map, List.length_append, if_true, if_false, ite_true, ite_false, reduceIte, Bool.false_eq_true, decide_eq_true_eq, Option.map_some, Option.map_none, Option.bind_some, Option.bind_none, Option.some.injEq, Option.join, List.isEmpty_cons, List.isEmpty_nil, List.all_cons, List.all_nil, PM.owned, PM.noLS, PM.noL, PM.noLs, Bool.or_true, Bool.true_or, Bool.or_false, Bool.false_or, Bool.and_true, Bool.true_and, Bool.and_false, Bool.false_and, Bool.not_true, Bool.not_false, List.isEmpty_map, PM.setS, PM.augIxS, PM.isD, PM.isNonD, PM.isBlD, PM.isNotD, PM.sumD, PM.allD, PM.anyD, PM.absD, PM.gcdD, PM.bitsD, PM.maxD, PM.minD, reduceCtorEq, decide_true, decide_false, eq_self, Nat.zero_add, Nat.reduceAdd, Nat.reduceSub, Nat.reduceLT, Nat.reduceEqDiff, Int.reduceAdd, Int.reduceSub, Int.reduceMul, Int.cast_ofNat_Int, Int.reduceBNe, Int.reduceBEq, Int.reduceNe, Nat.reduceBEq, PySem.sizeLine_eq, Nat.reduceLeDiff, Nat.reduceMul, Nat.reducePow, Int.reduceLE, Int.reduceLT, Int.reduceNeg, Int.reducePow, Int.reduceEq, and_self, and_true, true_and, PM.lcE, PM.compF, PM.yes, PM.wipeE, PM.restE, PM.clean, PM.forF, PM.blsD, decide_eq_true_eq, List.all_cons, List.all_nil, id_eq, PM.cut, HT.sIx, L2.atI, L2.ixN, Int.reduceToNat, Nat.min_def, List.drop_succ_cons, List.drop_zero, List.drop_nil, List.take_nil, Nat.reduceSub, List.take_succ_cons, List.take_zero, Option.bind_some, Option.bind_none, and_false, false_and, Nat.reduceLT, PM.revD, PM.rev0D, List.reverse_cons, List.reverse_nil, ao, noW, ru, hc, lc, show decide ((0 : Int) ≤ -1) = false by decide]
    · exact ⟨_, hz (.inl v1), pos 0 (by decide) (by decide) (by rw [v2, d2]; rfl)⟩
  · grind
  · exact ⟨_, hz (.inr d1), pos 0 (by decide) (by decide) (by rw [d2, Int.mul_zero])⟩
theorem k_bd {a r c : Int} {n : Nat} (ha : nb n a) (hr : nb n r) : nb (n + 1) ((a + r) / c) ∧ nb (n + 1) ((a - r) / c) := by
  have h1 := Int.natAbs_ediv_le_natAbs (a + r) c
  have h2 := Int.natAbs_ediv_le_natAbs (a - r) c
  have k1 := nb_add ha hr
  have k2 := nb_sub ha hr
  unfold nb at *
  omega
theorem r_bd {r S : Int} (r0 : 0 ≤ r) (r1 : r * r ≤ S) (h : S < 2 ^ 320 * 2 ^ 320) : nb 321 r ∧ nb 321 (r + 1) := by
  have := sq_lt r0 (Int.lt_of_le_of_lt r1 h) (Int.le_of_lt (p2p 320))
  unfold nb
  have e : (2 : Int) ^ 320 + 1 ≤ 2 ^ 321 := by decide
  have e2 : ((2 : Int) ^ 321).natAbs = 2 ^ 321 := p2abs 321
  omega
theorem floor_law {u v d : Rat} {n : Nat} (hn1 : bs u + bs v + bs v + bs d ≤ n) (hn2 : 321 ≤ n) (hu : bs u ≤ 900) (hv : bs v ≤ 300) (hd : bs d ≤ 900) (h0 : 0 ≤ d) (hsz : v.num * v.num * d.num * (v.den * v.den * d.den) * u.den * u.den < 2 ^ 320 * 2 ^ 320) : ∃ k, FL u v d k ∧ M__law_floor [W u, W v, W d] = .ok (false, .int k) ∧ nb (n + 1) k := by
  have fu := bs_fr u
  have fv := bs_fr v
  have fd := bs_fr d
  have pu : (0 : Int) < u.den := by have := u.den_pos; omega
  have pv : (0 : Int) < v.den := by have := v.den_pos; omega
  have pd : (0 : Int) < d.den := by have := d.den_pos; omega
  obtain ⟨eu, et⟩ := law_frac u v d
  have hm : (0 : Int) < v.den * v.den * d.den := Int.mul_pos (Int.mul_pos pv pv) pd
  have hc : (0 : Int) < u.den * (v.den * v.den * d.den) := Int.mul_pos pu hm
  have bm := nb_mul (nb_mul fv.b fv.b) fd.b
  have bn := nb_mul (nb_mul fv.a fv.a) fd.a
  have m1 := mul_nb fv.a fv.a (by omega)
  have m2 := mul_nb (nb_mul fv.a fv.a) fd.a (by omega)
  have m3 := mul_nb fv.b fv.b (by omega)
  have m4 := mul_nb (nb_mul fv.b fv.b) fd.b (by omega)
  have m5 := mul_nb bn bm (by omega)
  have m6 := mul_nb (nb_mul bn bm) fu.b (by omega)
  have m7 := mul_nb (nb_mul (nb_mul bn bm) fu.b) fu.b (by omega)
  have m8 := mul_nb fu.a bm (by omega)
  have m9 := mul_nb fu.b bm (by omega)
  have lc : ((u.den : Int) * (v.den * v.den * d.den)).natAbs.log2 < 9000 := nn_log (nb_mul fu.b bm) (by omega)
  have bS := nb_mul (nb_mul (nb_mul bn bm) fu.b) fu.b
  have ba := nb_up (m := n) (nb_mul fu.a bm) (by omega)
  dsimp only at m1 m2 m3 m4 m5 m6 m7 m8 m9 bS ba
  have hS : (0 : Int) ≤ v.num * v.num * d.num * (v.den * v.den * d.den) * u.den * u.den := by
    refine Int.mul_nonneg (Int.mul_nonneg (Int.mul_nonneg (Int.mul_nonneg ?_ (num_nn h0)) (by omega)) (by omega)) (by omega)
    rcases Int.le_total 0 v.num with z | z
    · exact Int.mul_nonneg z z
    · exact Int.mul_nonneg_of_nonpos_of_nonpos z z
  have t1 : ∀ s3 s4 s5 s6 : Option Slot, T1__law_floor [some (false, W u), some (false, W v), some (false, W d), s3, s4, s5, s6] = .nx [some (false, W u), some (false, W v), some (false, W d), some (false, .int (v.num * v.num * d.num)), s4, s5, s6] := fun s3 s4 s5 s6 => by
    unfold T1__law_floor W T
    simp only [PM.tgT, PM.tgs, PM.callE, PM.runF, PM.initE, PM.seqS, PM.asgS, PM.tgS, PM.parS, PM.appS, PM.augS, PM.dropS, PM.retS, PM.retN, PM.retV, PM.ifS, PM.forS, PM.M.thenS, PM.M.bind, PM.M.lift, PM.ret, PM.cst, PM.var, PM.pvar, PM.pk, PM.bin, PM.asB, PM.truth, PM.tru, PM.tand, PM.tor, PM.tnot, PM.vand, PM.vor, PM.vnot, PM.iff, PM.sli, PM.ono, PM.oin, PM.acons, PM.anil, PM.cnil, PM.cval, PM.cvw, PM.lstE, PM.tupE, PM.blt, PM.isi, PM.una, PM.smE, PM.src, PM.rng1, PM.rng2, PM.skip, PM.brkS, PM.cntS, PM.tgN, PM.itemsD, PM.tyD, PM.Ty.sub, PM.addD, PM.addIA, PM.subD, PM.mulD, PM.mulID, PM.fdivD, PM.modD, PM.powD, PM.ltD, PM.leD, PM.gtD, PM.geD, PM.cmpD, PM.eqD, PM.neD, PM.ixD, PM.sliceD, PM.lenD, PM.intD, PM.strD, PM.listD, PM.tupD, PM.joinD, PM.rjustD, PM.negD, List.length_cons, List.length_nil, List.getElem?_cons_zero, List.getElem?_cons_succ, List.set_cons_zero, List.set_cons_succ, List.map_cons, List.map_nil, List.cons_append, List.nil_append, List.append_nil, List.replicate, List.length_map, List.length_append, if_true, if_false, ite_true, ite_false, reduceIte, Bool.false_eq_true, decide_eq_true_eq, Option.map_some, Option.map_none, Option.bind_some, Option.bind_none, Option.some.injEq, Option.join, List.isEmpty_cons, List.isEmpty_nil, List.all_cons, List.all_nil, PM.owned, PM.noLS, PM.noL, PM.noLs, Bool.or_true, Bool.true_or, Bool.or_false, Bool.false_or, Bool.and_true, Bool.true_and, Bool.and_false, Bool.false_and, Bool.not_true, Bool.not_false, List.isEmpty_map, PM.setS, PM.augIxS, PM.isD, PM.isNonD, PM.isBlD, PM.isNotD, PM.sumD, PM.allD, PM.anyD, PM.absD, PM.gcdD, PM.bitsD, PM.maxD, PM.minD, reduceCtorEq, decide_true, decide_false, eq_self, Nat.zero_add, Nat.reduceAdd, Nat.reduceSub, Nat.reduceLT, Nat.reduceEqDiff, Int.reduceAdd, Int.reduceSub, Int.reduceMul, Int.cast_ofNat_Int, Int.reduceBNe, Int.reduceBEq, Int.reduceNe, Nat.reduceBEq, PySem.sizeLine_eq, Nat.reduceLeDiff, Nat.reduceMul, Nat.reducePow, Int.reduceLE, Int.reduceLT, Int.reduceNeg, Int.reducePow, Int.reduceEq, and_self, and_true, true_and, PM.lcE, PM.compF, PM.yes, PM.wipeE, PM.restE, PM.clean, PM.forF, PM.blsD, decide_eq_true_eq, List.all_cons, List.all_nil, id_eq, PM.cut, HT.sIx, L2.atI, L2.ixN, Int.reduceToNat, Nat.min_def, List.drop_succ_cons, List.drop_zero, List.drop_nil, List.take_nil, Nat.reduceSub, List.take_succ_cons, List.take_zero, Option.bind_some, Option.bind_none, and_false, false_and, Nat.reduceLT, PM.revD, PM.rev0D, List.reverse_cons, List.reverse_nil, m1, m2]
  have t2 : ∀ s3 s4 s5 s6 : Option Slot, T2__law_floor [some (false, W u), some (false, W v), some (false, W d), s3, s4, s5, s6] = .nx [some (false, W u), some (false, W v), some (false, W d), s3, some (false, .int (v.den * v.den * d.den)), s5, s6] := fun s3 s4 s5 s6 => by
    unfold T2__law_floor W T
    simp only [PM.tgT, PM.tgs, PM.callE, PM.runF, PM.initE, PM.seqS, PM.asgS, PM.tgS, PM.parS, PM.appS, PM.augS, PM.dropS, PM.retS, PM.retN, PM.retV, PM.ifS, PM.forS, PM.M.thenS, PM.M.bind, PM.M.lift, PM.ret, PM.cst, PM.var, PM.pvar, PM.pk, PM.bin, PM.asB, PM.truth, PM.tru, PM.tand, PM.tor, PM.tnot, PM.vand, PM.vor, PM.vnot, PM.iff, PM.sli, PM.ono, PM.oin, PM.acons, PM.anil, PM.cnil, PM.cval, PM.cvw, PM.lstE, PM.tupE, PM.blt, PM.isi, PM.una, PM.smE, PM.src, PM.rng1, PM.rng2, PM.skip, PM.brkS, PM.cntS, PM.tgN, PM.itemsD, PM.tyD, PM.Ty.sub, PM.addD, PM.addIA, PM.subD, PM.mulD, PM.mulID, PM.fdivD, PM.modD, PM.powD, PM.ltD, PM.leD, PM.gtD, PM.geD, PM.cmpD, PM.eqD, PM.neD, PM.ixD, PM.sliceD, PM.lenD, PM.intD, PM.strD, PM.listD, PM.tupD, PM.joinD, PM.rjustD, PM.negD, List.length_cons, List.length_nil, List.getElem?_cons_zero, List.getElem?_cons_succ, List.set_cons_zero, List.set_cons_succ, List.map_cons, List.map_nil, List.cons_append, List.nil_append, List.append_nil, List.replicate, List.length_map, List.length_append, if_true, if_false, ite_true, ite_false, reduceIte, Bool.false_eq_true, decide_eq_true_eq, Option.map_some, Option.map_none, Option.bind_some, Option.bind_none, Option.some.injEq, Option.join, List.isEmpty_cons, List.isEmpty_nil, List.all_cons, List.all_nil, PM.owned, PM.noLS, PM.noL, PM.noLs, Bool.or_true, Bool.true_or, Bool.or_false, Bool.false_or, Bool.and_true, Bool.true_and, Bool.and_false, Bool.false_and, Bool.not_true, Bool.not_false, List.isEmpty_map, PM.setS, PM.augIxS, PM.isD, PM.isNonD, PM.isBlD, PM.isNotD, PM.sumD, PM.allD, PM.anyD, PM.absD, PM.gcdD, PM.bitsD, PM.maxD, PM.minD, reduceCtorEq, decide_true, decide_false, eq_self, Nat.zero_add, Nat.reduceAdd, Nat.reduceSub, Nat.reduceLT, Nat.reduceEqDiff, Int.reduceAdd, Int.reduceSub, Int.reduceMul, Int.cast_ofNat_Int, Int.reduceBNe, Int.reduceBEq, Int.reduceNe, Nat.reduceBEq, PySem.sizeLine_eq, Nat.reduceLeDiff, Nat.reduceMul, Nat.reducePow, Int.reduceLE, Int.reduceLT, Int.reduceNeg, Int.reducePow, Int.reduceEq, and_self, and_true, true_and, PM.lcE, PM.compF, PM.yes, PM.wipeE, PM.restE, PM.clean, PM.forF, PM.blsD, decide_eq_true_eq, List.all_cons, List.all_nil, id_eq, PM.cut, HT.sIx, L2.atI, L2.ixN, Int.reduceToNat, Nat.min_def, List.drop_succ_cons, List.drop_zero, List.drop_nil, List.take_nil, Nat.reduceSub, List.take_succ_cons, List.take_zero, Option.bind_some, Option.bind_none, and_false, false_and, Nat.reduceLT, PM.revD, PM.rev0D, List.reverse_cons, List.reverse_nil, m3, m4]
  refine Exists.imp (fun k (h : FL u v d k ∧ S__law_floor _ = .rt (false, .int k) ∧ nb (n + 1) k) => ⟨h.1, run_rt rfl h.2.1, h.2.2⟩) ?_
  unfold S__law_floor
  show ∃ k, FL u v d k ∧ seqS _ _ [some (false, W u), some (false, W v), some (false, W d), none, none, none, none] = _ ∧ _
  rw [seq_nx (t1 none none none none), seq_nx (t2 _ none none none)]
  generalize hn : v.num * v.num * d.num = nn at *
  generalize hmm : (v.den : Int) * v.den * d.den = m at *
  have t3 : ∀ s5 s6 : Option Slot, T3__law_floor [some (false, W u), some (false, W v), some (false, W d), some (false, .int nn), some (false, .int m), s5, s6] = .nx [some (false, W u), some (false, W v), some (false, W d), some (false, .int nn), some (false, .int m), some (false, .int (nn * m * u.den * u.den)), s6] := fun s5 s6 => by
    unfold T3__law_floor W T
    simp only [PM.tgT, PM.tgs, PM.callE, PM.runF, PM.initE, PM.seqS, PM.asgS, PM.tgS, PM.parS, PM.appS, PM.augS, PM.dropS, PM.retS, PM.retN, PM.retV, PM.ifS, PM.forS, PM.M.thenS, PM.M.bind, PM.M.lift, PM.ret, PM.cst, PM.var, PM.pvar, PM.pk, PM.bin, PM.asB, PM.truth, PM.tru, PM.tand, PM.tor, PM.tnot, PM.vand, PM.vor, PM.vnot, PM.iff, PM.sli, PM.ono, PM.oin, PM.acons, PM.anil, PM.cnil, PM.cval, PM.cvw, PM.lstE, PM.tupE, PM.blt, PM.isi, PM.una, PM.smE, PM.src, PM.rng1, PM.rng2, PM.skip, PM.brkS, PM.cntS, PM.tgN, PM.itemsD, PM.tyD, PM.Ty.sub, PM.addD, PM.addIA, PM.subD, PM.mulD, PM.mulID, PM.fdivD, PM.modD, PM.powD, PM.ltD, PM.leD, PM.gtD, PM.geD, PM.cmpD, PM.eqD, PM.neD, PM.ixD, PM.sliceD, PM.lenD, PM.intD, PM.strD, PM.listD, PM.tupD, PM.joinD, PM.rjustD, PM.negD, List.length_cons, List.length_nil, List.getElem?_cons_zero, List.getElem?_cons_succ, List.set_cons_zero, List.set_cons_succ, List.map_cons, List.map_nil, List.cons_append, List.nil_append, List.append_nil, List.replicate, List.length_map, List.length_append, if_true, if_false, ite_true, ite_false, reduceIte, Bool.false_eq_true, decide_eq_true_eq, Option.map_some, Option.map_none, Option.bind_some, Option.bind_none, Option.some.injEq, Option.join, List.isEmpty_cons, List.isEmpty_nil, List.all_cons, List.all_nil, PM.owned, PM.noLS, PM.noL, PM.noLs, Bool.or_true, Bool.true_or, Bool.or_false, Bool.false_or, Bool.and_true, Bool.true_and, Bool.and_false, Bool.false_and, Bool.not_true, Bool.not_false, List.isEmpty_map, PM.setS, PM.augIxS, PM.isD, PM.isNonD, PM.isBlD, PM.isNotD, PM.sumD, PM.allD, PM.anyD, PM.absD, PM.gcdD, PM.bitsD, PM.maxD, PM.minD, reduceCtorEq, decide_true, decide_false, eq_self, Nat.zero_add, Nat.reduceAdd, Nat.reduceSub, Nat.reduceLT, Nat.reduceEqDiff, Int.reduceAdd, Int.reduceSub, Int.reduceMul, Int.cast_ofNat_Int, Int.reduceBNe, Int.reduceBEq, Int.reduceNe, Nat.reduceBEq, PySem.sizeLine_eq, Nat.reduceLeDiff, Nat.reduceMul, Nat.reducePow, Int.reduceLE, Int.reduceLT, Int.reduceNeg, Int.reducePow, Int.reduceEq, and_self, and_true, true_and, PM.lcE, PM.compF, PM.yes, PM.wipeE, PM.restE, PM.clean, PM.forF, PM.blsD, decide_eq_true_eq, List.all_cons, List.all_nil, id_eq, PM.cut, HT.sIx, L2.atI, L2.ixN, Int.reduceToNat, Nat.min_def, List.drop_succ_cons, List.drop_zero, List.drop_nil, List.take_nil, Nat.reduceSub, List.take_succ_cons, List.take_zero, Option.bind_some, Option.bind_none, and_false, false_and, Nat.reduceLT, PM.revD, PM.rev0D, List.reverse_cons, List.reverse_nil, m5, m6, m7]
  rw [seq_nx (t3 none none)]
  generalize nn * m * (u.den : Int) * u.den = S at *
  obtain ⟨r, r0, r1, r2, er⟩ := root_law hS hsz
  have t4 : ∀ s6 : Option Slot, T4__law_floor [some (false, W u), some (false, W v), some (false, W d), some (false, .int nn), some (false, .int m), some (false, .int S), s6] = .nx [some (false, W u), some (false, W v), some (false, W d), some (false, .int nn), some (false, .int m), some (false, .int S), some (false, .int r)] := fun s6 => by
    unfold T4__law_floor
    simp only [PM.tgT, PM.tgs, PM.callE, PM.runF, PM.initE, PM.seqS, PM.asgS, PM.tgS, PM.parS, PM.appS, PM.augS, PM.dropS, PM.retS, PM.retN, PM.retV, PM.ifS, PM.forS, PM.M.thenS, PM.M.bind, PM.M.lift, PM.ret, PM.cst, PM.var, PM.pvar, PM.pk, PM.bin, PM.asB, PM.truth, PM.tru, PM.tand, PM.tor, PM.tnot, PM.vand, PM.vor, PM.vnot, PM.iff, PM.sli, PM.ono, PM.oin, PM.acons, PM.anil, PM.cnil, PM.cval, PM.cvw, PM.lstE, PM.tupE, PM.blt, PM.isi, PM.una, PM.smE, PM.src, PM.rng1, PM.rng2, PM.skip, PM.brkS, PM.cntS, PM.tgN, PM.itemsD, PM.tyD, PM.Ty.sub, PM.addD, PM.addIA, PM.subD, PM.mulD, PM.mulID, PM.fdivD, PM.modD, PM.powD, PM.ltD, PM.leD, PM.gtD, PM.geD, PM.cmpD, PM.eqD, PM.neD, PM.ixD, PM.sliceD, PM.lenD, PM.intD, PM.strD, PM.listD, PM.tupD, PM.joinD, PM.rjustD, PM.negD, List.length_cons, List.length_nil, List.getElem?_cons_zero, List.getElem?_cons_succ, List.set_cons_zero, List.set_cons_succ, List.map_cons, List.map_nil, List.cons_append, List.nil_append, List.append_nil, List.replicate, List.length_map, List.length_append, if_true, if_false, ite_true, ite_false, reduceIte, Bool.false_eq_true, decide_eq_true_eq, Option.map_some, Option.map_none, Option.bind_some, Option.bind_none, Option.some.injEq, Option.join, List.isEmpty_cons, List.isEmpty_nil, List.all_cons, List.all_nil, PM.owned, PM.noLS, PM.noL, PM.noLs, Bool.or_true, Bool.true_or, Bool.or_false, Bool.false_or, Bool.and_true, Bool.true_and, Bool.and_false, Bool.false_and, Bool.not_true, Bool.not_false, List.isEmpty_map, PM.setS, PM.augIxS, PM.isD, PM.isNonD, PM.isBlD, PM.isNotD, PM.sumD, PM.allD, PM.anyD, PM.absD, PM.gcdD, PM.bitsD, PM.maxD, PM.minD, reduceCtorEq, decide_true, decide_false, eq_self, Nat.zero_add, Nat.reduceAdd, Nat.reduceSub, Nat.reduceLT, Nat.reduceEqDiff, Int.reduceAdd, Int.reduceSub, Int.reduceMul, Int.cast_ofNat_Int, Int.reduceBNe, Int.reduceBEq, Int.reduceNe, Nat.reduceBEq, PySem.sizeLine_eq, Nat.reduceLeDiff, Nat.reduceMul, Nat.reducePow, Int.reduceLE, Int.reduceLT, Int.reduceNeg, Int.reducePow, Int.reduceEq, and_self, and_true, true_and, PM.lcE, PM.compF, PM.yes, PM.wipeE, PM.restE, PM.clean, PM.forF, PM.blsD, decide_eq_true_eq, List.all_cons, List.all_nil, id_eq, PM.cut, HT.sIx, L2.atI, L2.ixN, Int.reduceToNat, Nat.min_def, List.drop_succ_cons, List.drop_zero, List.drop_nil, List.take_nil, Nat.reduceSub, List.take_succ_cons, List.take_zero, Option.bind_some, Option.bind_none, and_false, false_and, Nat.reduceLT, PM.revD, PM.rev0D, List.reverse_cons, List.reverse_nil, er]
  rw [seq_nx (t4 none)]
  have br := nb_small r0 r1 bS
  obtain ⟨rb1, rb2⟩ := r_bd r0 r1 hsz
  have rb1 := nb_up (m := n) rb1 (by omega)
  have rb2 := nb_up (m := n) rb2 (by omega)
  have mr : mulOk r r = true := mul_nb br br (by omega)
  by_cases hv0 : 0 ≤ v.num
  · refine ⟨_, fl_pos hc eu et (by
      by_cases z : 0 ≤ v
      · exact z
      · have := (rneg (r := v)).mp (by grind)
        omega) r0 r1 r2, ?_, (k_bd ba rb1).1⟩
    unfold T5__law_floor W T
    simp only [PM.tgT, PM.tgs, PM.callE, PM.runF, PM.initE, PM.seqS, PM.asgS, PM.tgS, PM.parS, PM.appS, PM.augS, PM.dropS, PM.retS, PM.retN, PM.retV, PM.ifS, PM.forS, PM.M.thenS, PM.M.bind, PM.M.lift, PM.ret, PM.cst, PM.var, PM.pvar, PM.pk, PM.bin, PM.asB, PM.truth, PM.tru, PM.tand, PM.tor, PM.tnot, PM.vand, PM.vor, PM.vnot, PM.iff, PM.sli, PM.ono, PM.oin, PM.acons, PM.anil, PM.cnil, PM.cval, PM.cvw, PM.lstE, PM.tupE, PM.blt, PM.isi, PM.una, PM.smE, PM.src, PM.rng1, PM.rng2, PM.skip, PM.brkS, PM.cntS, PM.tgN, PM.itemsD, PM.tyD, PM.Ty.sub, PM.addD, PM.addIA, PM.subD, PM.mulD, PM.mulID, PM.fdivD, PM.modD, PM.powD, PM.ltD, PM.leD, PM.gtD, PM.geD, PM.cmpD, PM.eqD, PM.neD, PM.ixD, PM.sliceD, PM.lenD, PM.intD, PM.strD, PM.listD, PM.tupD, PM.joinD, PM.rjustD, PM.negD, List.length_cons, List.length_nil, List.getElem?_cons_zero, List.getElem?_cons_succ, List.set_cons_zero, List.set_cons_succ, List.map_cons, List.map_nil, List.cons_append, List.nil_append, List.append_nil, List.replicate, List.length_map, List.length_append, if_true, if_false, ite_true, ite_false, reduceIte, Bool.false_eq_true, decide_eq_true_eq, Option.map_some, Option.map_none, Option.bind_some, Option.bind_none, Option.some.injEq, Option.join, List.isEmpty_cons, List.isEmpty_nil, List.all_cons, List.all_nil, PM.owned, PM.noLS, PM.noL, PM.noLs, Bool.or_true, Bool.true_or, Bool.or_false, Bool.false_or, Bool.and_true, Bool.true_and, Bool.and_false, Bool.false_and, Bool.not_true, Bool.not_false, List.isEmpty_map, PM.setS, PM.augIxS, PM.isD, PM.isNonD, PM.isBlD, PM.isNotD, PM.sumD, PM.allD, PM.anyD, PM.absD, PM.gcdD, PM.bitsD, PM.maxD, PM.minD, reduceCtorEq, decide_true, decide_false, eq_self, Nat.zero_add, Nat.reduceAdd, Nat.reduceSub, Nat.reduceLT, Nat.reduceEqDiff, Int.reduceAdd, Int.reduceSub, Int.reduceMul, Int.cast_ofNat_Int, Int.reduceBNe, Int.reduceBEq, Int.reduceNe, Nat.reduceBEq, PySem.sizeLine_eq, Nat.reduceLeDiff, Nat.reduceMul, Nat.reducePow, Int.reduceLE, Int.reduceLT, Int.reduceNeg, Int.reducePow, Int.reduceEq, and_self, and_true, true_and, PM.lcE, PM.compF, PM.yes, PM.wipeE, PM.restE, PM.clean, PM.forF, PM.blsD, decide_eq_true_eq, List.all_cons, List.all_nil, id_eq, PM.cut, HT.sIx, L2.atI, L2.ixN, Int.reduceToNat, Nat.min_def, List.drop_succ_cons, List.drop_zero, List.drop_nil, List.take_nil, Nat.reduceSub, List.take_succ_cons, List.take_zero, Option.bind_some, Option.bind_none, and_false, false_and, Nat.reduceLT, PM.revD, PM.rev0D, List.reverse_cons, List.reverse_nil, decide_eq_true hv0, m8, m9, hc, lc]
  · have vn : v ≤ 0 := by
      have := (rneg (r := v)).mpr (by omega)
      grind
    have t5 : T5__law_floor [some (false, W u), some (false, W v), some (false, W d), some (false, .int nn), some (false, .int m), some (false, .int S), some (false, .int r)] = .nx [some (false, W u), some (false, W v), some (false, W d), some (false, .int nn), some (false, .int m), some (false, .int S), some (false, .int r)] := by
      unfold T5__law_floor W T
      simp only [PM.tgT, PM.tgs, PM.callE, PM.runF, PM.initE, PM.seqS, PM.asgS, PM.tgS, PM.parS, PM.appS, PM.augS, PM.dropS, PM.retS, PM.retN, PM.retV, PM.ifS, PM.forS, PM.M.thenS, PM.M.bind, PM.M.lift, PM.ret, PM.cst, PM.var, PM.pvar, PM.pk, PM.bin, PM.asB, PM.truth, PM.tru, PM.tand, PM.tor, PM.tnot, PM.vand, PM.vor, PM.vnot, PM.iff, PM.sli, PM.ono, PM.oin, PM.acons, PM.anil, PM.cnil, PM.cval, PM.cvw, PM.lstE, PM.tupE, PM.blt, PM.isi, PM.una, PM.smE, PM.src, PM.rng1, PM.rng2, PM.skip, PM.brkS, PM.cntS, PM.tgN, PM.itemsD, PM.tyD, PM.Ty.sub, PM.addD, PM.addIA, PM.subD, PM.mulD, PM.mulID, PM.fdivD, PM.modD, PM.powD, PM.ltD, PM.leD, PM.gtD, PM.geD, PM.cmpD, PM.eqD, PM.neD, PM.ixD, PM.sliceD, PM.lenD, PM.intD, PM.strD, PM.listD, PM.tupD, PM.joinD, PM.rjustD, PM.negD, List.length_cons, List.length_nil, List.getElem?_cons_zero, List.getElem?_cons_succ, List.set_cons_zero, List.set_cons_succ, List.map_cons, List.map_nil, List.cons_append, List.nil_append, List.append_nil, List.replicate, List.length_map, List.length_append, if_true, if_false, ite_true, ite_false, reduceIte, Bool.false_eq_true, decide_eq_true_eq, Option.map_some, Option.map_none, Option.bind_some, Option.bind_none, Option.some.injEq, Option.join, List.isEmpty_cons, List.isEmpty_nil, List.all_cons, List.all_nil, PM.owned, PM.noLS, PM.noL, PM.noLs, Bool.or_true, Bool.true_or, Bool.or_false, Bool.false_or, Bool.and_true, Bool.true_and, Bool.and_false, Bool.false_and, Bool.not_true, Bool.not_false, List.isEmpty_map, PM.setS, PM.augIxS, PM.isD, PM.isNonD, PM.isBlD, PM.isNotD, PM.sumD, PM.allD, PM.anyD, PM.absD, PM.gcdD, PM.bitsD, PM.maxD, PM.minD, reduceCtorEq, decide_true, decide_false, eq_self, Nat.zero_add, Nat.reduceAdd, Nat.reduceSub, Nat.reduceLT, Nat.reduceEqDiff, Int.reduceAdd, Int.reduceSub, Int.reduceMul, Int.cast_ofNat_Int, Int.reduceBNe, Int.reduceBEq, Int.reduceNe, Nat.reduceBEq, PySem.sizeLine_eq, Nat.reduceLeDiff, Nat.reduceMul, Nat.reducePow, Int.reduceLE, Int.reduceLT, Int.reduceNeg, Int.reducePow, Int.reduceEq, and_self, and_true, true_and, PM.lcE, PM.compF, PM.yes, PM.wipeE, PM.restE, PM.clean, PM.forF, PM.blsD, decide_eq_true_eq, List.all_cons, List.all_nil, id_eq, PM.cut, HT.sIx, L2.atI, L2.ixN, Int.reduceToNat, Nat.min_def, List.drop_succ_cons, List.drop_zero, List.drop_nil, List.take_nil, Nat.reduceSub, List.take_succ_cons, List.take_zero, Option.bind_some, Option.bind_none, and_false, false_and, Nat.reduceLT, PM.revD, PM.rev0D, List.reverse_cons, List.reverse_nil, decide_eq_false hv0]
    rw [seq_nx t5]
    by_cases q : r * r < S
    · have t6 : T6__law_floor [some (false, W u), some (false, W v), some (false, W d), some (false, .int nn), some (false, .int m), some (false, .int S), some (false, .int r)] = .nx [some (false, W u), some (false, W v), some (false, W d), some (false, .int nn), some (false, .int m), some (false, .int S), some (false, .int (r + 1))] := by
        unfold T6__law_floor
        simp only [PM.tgT, PM.tgs, PM.callE, PM.runF, PM.initE, PM.seqS, PM.asgS, PM.tgS, PM.parS, PM.appS, PM.augS, PM.dropS, PM.retS, PM.retN, PM.retV, PM.ifS, PM.forS, PM.M.thenS, PM.M.bind, PM.M.lift, PM.ret, PM.cst, PM.var, PM.pvar, PM.pk, PM.bin, PM.asB, PM.truth, PM.tru, PM.tand, PM.tor, PM.tnot, PM.vand, PM.vor, PM.vnot, PM.iff, PM.sli, PM.ono, PM.oin, PM.acons, PM.anil, PM.cnil, PM.cval, PM.cvw, PM.lstE, PM.tupE, PM.blt, PM.isi, PM.una, PM.smE, PM.src, PM.rng1, PM.rng2, PM.skip, PM.brkS, PM.cntS, PM.tgN, PM.itemsD, PM.tyD, PM.Ty.sub, PM.addD, PM.addIA, PM.subD, PM.mulD, PM.mulID, PM.fdivD, PM.modD, PM.powD, PM.ltD, PM.leD, PM.gtD, PM.geD, PM.cmpD, PM.eqD, PM.neD, PM.ixD, PM.sliceD, PM.lenD, PM.intD, PM.strD, PM.listD, PM.tupD, PM.joinD, PM.rjustD, PM.negD, List.length_cons, List.length_nil, List.getElem?_cons_zero, List.getElem?_cons_succ, List.set_cons_zero, List.set_cons_succ, List.map_cons, List.map_nil, List.cons_append, List.nil_append, List.append_nil, List.replicate, List.length_map, List.length_append, if_true, if_false, ite_true, ite_false, reduceIte, Bool.false_eq_true, decide_eq_true_eq, Option.map_some, Option.map_none, Option.bind_some, Option.bind_none, Option.some.injEq, Option.join, List.isEmpty_cons, List.isEmpty_nil, List.all_cons, List.all_nil, PM.owned, PM.noLS, PM.noL, PM.noLs, Bool.or_true, Bool.true_or, Bool.or_false, Bool.false_or, Bool.and_true, Bool.true_and, Bool.and_false, Bool.false_and, Bool.not_true, Bool.not_false, List.isEmpty_map, PM.setS, PM.augIxS, PM.isD, PM.isNonD, PM.isBlD, PM.isNotD, PM.sumD, PM.allD, PM.anyD, PM.absD, PM.gcdD, PM.bitsD, PM.maxD, PM.minD, reduceCtorEq, decide_true, decide_false, eq_self, Nat.zero_add, Nat.reduceAdd, Nat.reduceSub, Nat.reduceLT, Nat.reduceEqDiff, Int.reduceAdd, Int.reduceSub, Int.reduceMul, Int.cast_ofNat_Int, Int.reduceBNe, Int.reduceBEq, Int.reduceNe, Nat.reduceBEq, PySem.sizeLine_eq, Nat.reduceLeDiff, Nat.reduceMul, Nat.reducePow, Int.reduceLE, Int.reduceLT, Int.reduceNeg, Int.reducePow, Int.reduceEq, and_self, and_true, true_and, PM.lcE, PM.compF, PM.yes, PM.wipeE, PM.restE, PM.clean, PM.forF, PM.blsD, decide_eq_true_eq, List.all_cons, List.all_nil, id_eq, PM.cut, HT.sIx, L2.atI, L2.ixN, Int.reduceToNat, Nat.min_def, List.drop_succ_cons, List.drop_zero, List.drop_nil, List.take_nil, Nat.reduceSub, List.take_succ_cons, List.take_zero, Option.bind_some, Option.bind_none, and_false, false_and, Nat.reduceLT, PM.revD, PM.rev0D, List.reverse_cons, List.reverse_nil, mr, decide_eq_true q]
      rw [seq_nx t6]
      refine ⟨_, fl_neg hc eu et vn hS (show 0 ≤ r + 1 by omega) (by omega) (.inr (by rw [show r + 1 - 1 = r by omega]; exact q)), ?_, (k_bd ba rb2).2⟩
      unfold T7__law_floor W T
      simp only [PM.tgT, PM.tgs, PM.callE, PM.runF, PM.initE, PM.seqS, PM.asgS, PM.tgS, PM.parS, PM.appS, PM.augS, PM.dropS, PM.retS, PM.retN, PM.retV, PM.ifS, PM.forS, PM.M.thenS, PM.M.bind, PM.M.lift, PM.ret, PM.cst, PM.var, PM.pvar, PM.pk, PM.bin, PM.asB, PM.truth, PM.tru, PM.tand, PM.tor, PM.tnot, PM.vand, PM.vor, PM.vnot, PM.iff, PM.sli, PM.ono, PM.oin, PM.acons, PM.anil, PM.cnil, PM.cval, PM.cvw, PM.lstE, PM.tupE, PM.blt, PM.isi, PM.una, PM.smE, PM.src, PM.rng1, PM.rng2, PM.skip, PM.brkS, PM.cntS, PM.tgN, PM.itemsD, PM.tyD, PM.Ty.sub, PM.addD, PM.addIA, PM.subD, PM.mulD, PM.mulID, PM.fdivD, PM.modD, PM.powD, PM.ltD, PM.leD, PM.gtD, PM.geD, PM.cmpD, PM.eqD, PM.neD, PM.ixD, PM.sliceD, PM.lenD, PM.intD, PM.strD, PM.listD, PM.tupD, PM.joinD, PM.rjustD, PM.negD, List.length_cons, List.length_nil, List.getElem?_cons_zero, List.getElem?_cons_succ, List.set_cons_zero, List.set_cons_succ, List.map_cons, List.map_nil, List.cons_append, List.nil_append, List.append_nil, List.replicate, List.length_map, List.length_append, if_true, if_false, ite_true, ite_false, reduceIte, Bool.false_eq_true, decide_eq_true_eq, Option.map_some, Option.map_none, Option.bind_some, Option.bind_none, Option.some.injEq, Option.join, List.isEmpty_cons, List.isEmpty_nil, List.all_cons, List.all_nil, PM.owned, PM.noLS, PM.noL, PM.noLs, Bool.or_true, Bool.true_or, Bool.or_false, Bool.false_or, Bool.and_true, Bool.true_and, Bool.and_false, Bool.false_and, Bool.not_true, Bool.not_false, List.isEmpty_map, PM.setS, PM.augIxS, PM.isD, PM.isNonD, PM.isBlD, PM.isNotD, PM.sumD, PM.allD, PM.anyD, PM.absD, PM.gcdD, PM.bitsD, PM.maxD, PM.minD, reduceCtorEq, decide_true, decide_false, eq_self, Nat.zero_add, Nat.reduceAdd, Nat.reduceSub, Nat.reduceLT, Nat.reduceEqDiff, Int.reduceAdd, Int.reduceSub, Int.reduceMul, Int.cast_ofNat_Int, Int.reduceBNe, Int.reduceBEq, Int.reduceNe, Nat.reduceBEq, PySem.sizeLine_eq, Nat.reduceLeDiff, Nat.reduceMul, Nat.reducePow, Int.reduceLE, Int.reduceLT, Int.reduceNeg, Int.reducePow, Int.reduceEq, and_self, and_true, true_and, PM.lcE, PM.compF, PM.yes, PM.wipeE, PM.restE, PM.clean, PM.forF, PM.blsD, decide_eq_true_eq, List.all_cons, List.all_nil, id_eq, PM.cut, HT.sIx, L2.atI, L2.ixN, Int.reduceToNat, Nat.min_def, List.drop_succ_cons, List.drop_zero, List.drop_nil, List.take_nil, Nat.reduceSub, List.take_succ_cons, List.take_zero, Option.bind_some, Option.bind_none, and_false, false_and, Nat.reduceLT, PM.revD, PM.rev0D, List.reverse_cons, List.reverse_nil, m8, m9, hc, lc]
    · have t6 : T6__law_floor [some (false, W u), some (false, W v), some (false, W d), some (false, .int nn), some (false, .int m), some (false, .int S), some (false, .int r)] = .nx [some (false, W u), some (false, W v), some (false, W d), some (false, .int nn), some (false, .int m), some (false, .int S), some (false, .int r)] := by
        unfold T6__law_floor
        simp only [PM.tgT, PM.tgs, PM.callE, PM.runF, PM.initE, PM.seqS, PM.asgS, PM.tgS, PM.parS, PM.appS, PM.augS, PM.dropS, PM.retS, PM.retN, PM.retV, PM.ifS, PM.forS, PM.M.thenS, PM.M.bind, PM.M.lift, PM.ret, PM.cst, PM.var, PM.pvar, PM.pk, PM.bin, PM.asB, PM.truth, PM.tru, PM.tand, PM.tor, PM.tnot, PM.vand, PM.vor, PM.vnot, PM.iff, PM.sli, PM.ono, PM.oin, PM.acons, PM.anil, PM.cnil, PM.cval, PM.cvw, PM.lstE, PM.tupE, PM.blt, PM.isi, PM.una, PM.smE, PM.src, PM.rng1, PM.rng2, PM.skip, PM.brkS, PM.cntS, PM.tgN, PM.itemsD, PM.tyD, PM.Ty.sub, PM.addD, PM.addIA, PM.subD, PM.mulD, PM.mulID, PM.fdivD, PM.modD, PM.powD, PM.ltD, PM.leD, PM.gtD, PM.geD, PM.cmpD, PM.eqD, PM.neD, PM.ixD, PM.sliceD, PM.lenD, PM.intD, PM.strD, PM.listD, PM.tupD, PM.joinD, PM.rjustD, PM.negD, List.length_cons, List.length_nil, List.getElem?_cons_zero, List.getElem?_cons_succ, List.set_cons_zero, List.set_cons_succ, List.map_cons, List.map_nil, List.cons_append, List.nil_append, List.append_nil, List.replicate, List.length_map, List.length_append, if_true, if_false, ite_true, ite_false, reduceIte, Bool.false_eq_true, decide_eq_true_eq, Option.map_some, Option.map_none, Option.bind_some, Option.bind_none, Option.some.injEq, Option.join, List.isEmpty_cons, List.isEmpty_nil, List.all_cons, List.all_nil, PM.owned, PM.noLS, PM.noL, PM.noLs, Bool.or_true, Bool.true_or, Bool.or_false, Bool.false_or, Bool.and_true, Bool.true_and, Bool.and_false, Bool.false_and, Bool.not_true, Bool.not_false, List.isEmpty_map, PM.setS, PM.augIxS, PM.isD, PM.isNonD, PM.isBlD, PM.isNotD, PM.sumD, PM.allD, PM.anyD, PM.absD, PM.gcdD, PM.bitsD, PM.maxD, PM.minD, reduceCtorEq, decide_true, decide_false, eq_self, Nat.zero_add, Nat.reduceAdd, Nat.reduceSub, Nat.reduceLT, Nat.reduceEqDiff, Int.reduceAdd, Int.reduceSub, Int.reduceMul, Int.cast_ofNat_Int, Int.reduceBNe, Int.reduceBEq, Int.reduceNe, Nat.reduceBEq, PySem.sizeLine_eq, Nat.reduceLeDiff, Nat.reduceMul, Nat.reducePow, Int.reduceLE, Int.reduceLT, Int.reduceNeg, Int.reducePow, Int.reduceEq, and_self, and_true, true_and, PM.lcE, PM.compF, PM.yes, PM.wipeE, PM.restE, PM.clean, PM.forF, PM.blsD, decide_eq_true_eq, List.all_cons, List.all_nil, id_eq, PM.cut, HT.sIx, L2.atI, L2.ixN, Int.reduceToNat, Nat.min_def, List.drop_succ_cons, List.drop_zero, List.drop_nil, List.take_nil, Nat.reduceSub, List.take_succ_cons, List.take_zero, Option.bind_some, Option.bind_none, and_false, false_and, Nat.reduceLT, PM.revD, PM.rev0D, List.reverse_cons, List.reverse_nil, mr, decide_eq_false q]
      rw [seq_nx t6]
      refine ⟨_, fl_neg hc eu et vn hS r0 (by omega) ?_, ?_, (k_bd ba rb1).2⟩
      · rcases Int.lt_or_le r 1 with z | z
        · exact .inl (by omega)
        · refine .inr ?_
          have : (r - 1) * (r - 1) = r * r - 2 * r + 1 := by grind
          omega
      · unfold T7__law_floor W T
        simp only [PM.tgT, PM.tgs, PM.callE, PM.runF, PM.initE, PM.seqS, PM.asgS, PM.tgS, PM.parS, PM.appS, PM.augS, PM.dropS, PM.retS, PM.retN, PM.retV, PM.ifS, PM.forS, PM.M.thenS, PM.M.bind, PM.M.lift, PM.ret, PM.cst, PM.var, PM.pvar, PM.pk, PM.bin, PM.asB, PM.truth, PM.tru, PM.tand, PM.tor, PM.tnot, PM.vand, PM.vor, PM.vnot, PM.iff, PM.sli, PM.ono, PM.oin, PM.acons, PM.anil, PM.cnil, PM.cval, PM.cvw, PM.lstE, PM.tupE, PM.blt, PM.isi, PM.una, PM.smE, PM.src, PM.rng1, PM.rng2, PM.skip, PM.brkS, PM.cntS, PM.tgN, PM.itemsD, PM.tyD, PM.Ty.sub, PM.addD, PM.addIA, PM.subD, PM.mulD, PM.mulID, PM.fdivD, PM.modD, PM.powD, PM.ltD, PM.leD, PM.gtD, PM.geD, PM.cmpD, PM.eqD, PM.neD, PM.ixD, PM.sliceD, PM.lenD, PM.intD, PM.strD, PM.listD, PM.tupD, PM.joinD, PM.rjustD, PM.negD, List.length_cons, List.length_nil, List.getElem?_cons_zero, List.getElem?_cons_succ, List.set_cons_zero, List.set_cons_succ, List.map_cons, List.map_nil, List.cons_append, List.nil_append, List.append_nil, List.replicate, List.length_map, List.length_append, if_true, if_false, ite_true, ite_false, reduceIte, Bool.false_eq_true, decide_eq_true_eq, Option.map_some, Option.map_none, Option.bind_some, Option.bind_none, Option.some.injEq, Option.join, List.isEmpty_cons, List.isEmpty_nil, List.all_cons, List.all_nil, PM.owned, PM.noLS, PM.noL, PM.noLs, Bool.or_true, Bool.true_or, Bool.or_false, Bool.false_or, Bool.and_true, Bool.true_and, Bool.and_false, Bool.false_and, Bool.not_true, Bool.not_false, List.isEmpty_map, PM.setS, PM.augIxS, PM.isD, PM.isNonD, PM.isBlD, PM.isNotD, PM.sumD, PM.allD, PM.anyD, PM.absD, PM.gcdD, PM.bitsD, PM.maxD, PM.minD, reduceCtorEq, decide_true, decide_false, eq_self, Nat.zero_add, Nat.reduceAdd, Nat.reduceSub, Nat.reduceLT, Nat.reduceEqDiff, Int.reduceAdd, Int.reduceSub, Int.reduceMul, Int.cast_ofNat_Int, Int.reduceBNe, Int.reduceBEq, Int.reduceNe, Nat.reduceBEq, PySem.sizeLine_eq, Nat.reduceLeDiff, Nat.reduceMul, Nat.reducePow, Int.reduceLE, Int.reduceLT, Int.reduceNeg, Int.reducePow, Int.reduceEq, and_self, and_true, true_and, PM.lcE, PM.compF, PM.yes, PM.wipeE, PM.restE, PM.clean, PM.forF, PM.blsD, decide_eq_true_eq, List.all_cons, List.all_nil, id_eq, PM.cut, HT.sIx, L2.atI, L2.ixN, Int.reduceToNat, Nat.min_def, List.drop_succ_cons, List.drop_zero, List.drop_nil, List.take_nil, Nat.reduceSub, List.take_succ_cons, List.take_zero, Option.bind_some, Option.bind_none, and_false, false_and, Nat.reduceLT, PM.revD, PM.rev0D, List.reverse_cons, List.reverse_nil, m8, m9, hc, lc]
end LawW

namespace LawW
open PySem L2 PM
structure Good (u v d : Rat) : Prop where
  bu : bs u ≤ 170
  bv : bs v ≤ 81
  bd : bs d ≤ 162
  d0 : 0 ≤ d
  sz : v.num * v.num * d.num * (v.den * v.den * d.den) * u.den * u.den < 2 ^ 320 * 2 ^ 320
theorem Good.negu {u v d : Rat} (h : Good u v d) : Good (-u) v d := ⟨by rw [bs_neg]; exact h.bu, h.bv, h.bd, h.d0, by rw [Rat.neg_den]; exact h.sz⟩
theorem Good.negv {u v d : Rat} (h : Good u v d) : Good u (-v) d := ⟨h.bu, by rw [bs_neg]; exact h.bv, h.bd, h.d0, by rw [Rat.neg_den, Rat.neg_num, Int.neg_mul_neg]; exact h.sz⟩
theorem bs_int {k : Int} {n : Nat} (h : nb (n + 1) k) : bs (k : Rat) ≤ n + 1 := by
  unfold bs
  exact Nat.max_le.mpr ⟨log_lt h, by show (1 : Nat).log2 + 1 ≤ _; rw [show (1 : Nat).log2 = 0 from rfl]; omega⟩
theorem W_int (k : Int) : W (k : Rat) = .tup [.int k, .int 1] := rfl
theorem sI (w : Int) : M__law_same 12 [.int w, .int w] = .ok (false, .bl true) := same_ok 12 (.int w) rfl (by unfold depD; decide)
theorem compared_ok {u v d r : Rat} (h : Good u v d) (hr : bs r ≤ 700) : M__law_compared [W u, W v, W d, W r] = .ok (false, .bl true) ∧ M_compare_sum [W u, W v, W d, W r] = .ok (false, .int (SS (u - r) v d)) := by
  have b1 := h.bu
  have b2 := h.bv
  have b3 := h.bd
  have bb := bs_sub u r
  have m1 := minusW (r := u) (s := r) (by omega) (by omega)
  have m2 := l_lessW (r := u) (s := r) (by omega) (by omega)
  have s1 := ss_prog (u := u - r) (v := v) (d := d) (by omega) (by omega) (by omega) h.d0
  have s2 := ss_law (u := u - r) (v := v) (d := d) (by omega) (by omega) (by omega) h.d0
  have c : M_compare_sum [W u, W v, W d, W r] = .ok (false, .int (SS (u - r) v d)) := by
    unfold M_compare_sum S_compare_sum
    simp only [PM.tgT, PM.tgs, PM.callE, PM.runF, PM.initE, PM.seqS, PM.asgS, PM.tgS, PM.parS, PM.appS, PM.augS, PM.dropS, PM.retS, PM.retN, PM.retV, PM.ifS, PM.forS, PM.M.thenS, PM.M.bind, PM.M.lift, PM.ret, PM.cst, PM.var, PM.pvar, PM.pk, PM.bin, PM.asB, PM.truth, PM.tru, PM.tand, PM.tor, PM.tnot, PM.vand, PM.vor, PM.vnot, PM.iff, PM.sli, PM.ono, PM.oin, PM.acons, PM.anil, PM.cnil, PM.cval, PM.cvw, PM.lstE, PM.tupE, PM.blt, PM.isi, PM.una, PM.smE, PM.src, PM.rng1, PM.rng2, PM.skip, PM.brkS, PM.cntS, PM.tgN, PM.itemsD, PM.tyD, PM.Ty.sub, PM.addD, PM.addIA, PM.subD, PM.mulD, PM.mulID, PM.fdivD, PM.modD, PM.powD, PM.ltD, PM.leD, PM.gtD, PM.geD, PM.cmpD, PM.eqD, PM.neD, PM.ixD, PM.sliceD, PM.lenD, PM.intD, PM.strD, PM.listD, PM.tupD, PM.joinD, PM.rjustD, PM.negD, List.length_cons, List.length_nil, List.getElem?_cons_zero, List.getElem?_cons_succ, List.set_cons_zero, List.set_cons_succ, List.map_cons, List.map_nil, List.cons_append, List.nil_append, List.append_nil, List.replicate, List.length_map, List.length_append, if_true, if_false, ite_true, ite_false, reduceIte, Bool.false_eq_true, decide_eq_true_eq, Option.map_some, Option.map_none, Option.bind_some, Option.bind_none, Option.some.injEq, Option.join, List.isEmpty_cons, List.isEmpty_nil, List.all_cons, List.all_nil, PM.owned, PM.noLS, PM.noL, PM.noLs, Bool.or_true, Bool.true_or, Bool.or_false, Bool.false_or, Bool.and_true, Bool.true_and, Bool.and_false, Bool.false_and, Bool.not_true, Bool.not_false, List.isEmpty_map, PM.setS, PM.augIxS, PM.isD, PM.isNonD, PM.isBlD, PM.isNotD, PM.sumD, PM.allD, PM.anyD, PM.absD, PM.gcdD, PM.bitsD, PM.maxD, PM.minD, reduceCtorEq, decide_true, decide_false, eq_self, Nat.zero_add, Nat.reduceAdd, Nat.reduceSub, Nat.reduceLT, Nat.reduceEqDiff, Int.reduceAdd, Int.reduceSub, Int.reduceMul, Int.cast_ofNat_Int, Int.reduceBNe, Int.reduceBEq, Int.reduceNe, Nat.reduceBEq, PySem.sizeLine_eq, Nat.reduceLeDiff, Nat.reduceMul, Nat.reducePow, Int.reduceLE, Int.reduceLT, Int.reduceNeg, Int.reducePow, Int.reduceEq, and_self, and_true, true_and, m1, s1, noW]
  refine ⟨?_, c⟩
  unfold M__law_compared S__law_compared
  simp only [PM.tgT, PM.tgs, PM.callE, PM.runF, PM.initE, PM.seqS, PM.asgS, PM.tgS, PM.parS, PM.appS, PM.augS, PM.dropS, PM.retS, PM.retN, PM.retV, PM.ifS, PM.forS, PM.M.thenS, PM.M.bind, PM.M.lift, PM.ret, PM.cst, PM.var, PM.pvar, PM.pk, PM.bin, PM.asB, PM.truth, PM.tru, PM.tand, PM.tor, PM.tnot, PM.vand, PM.vor, PM.vnot, PM.iff, PM.sli, PM.ono, PM.oin, PM.acons, PM.anil, PM.cnil, PM.cval, PM.cvw, PM.lstE, PM.tupE, PM.blt, PM.isi, PM.una, PM.smE, PM.src, PM.rng1, PM.rng2, PM.skip, PM.brkS, PM.cntS, PM.tgN, PM.itemsD, PM.tyD, PM.Ty.sub, PM.addD, PM.addIA, PM.subD, PM.mulD, PM.mulID, PM.fdivD, PM.modD, PM.powD, PM.ltD, PM.leD, PM.gtD, PM.geD, PM.cmpD, PM.eqD, PM.neD, PM.ixD, PM.sliceD, PM.lenD, PM.intD, PM.strD, PM.listD, PM.tupD, PM.joinD, PM.rjustD, PM.negD, List.length_cons, List.length_nil, List.getElem?_cons_zero, List.getElem?_cons_succ, List.set_cons_zero, List.set_cons_succ, List.map_cons, List.map_nil, List.cons_append, List.nil_append, List.append_nil, List.replicate, List.length_map, List.length_append, if_true, if_false, ite_true, ite_false, reduceIte, Bool.false_eq_true, decide_eq_true_eq, Option.map_some, Option.map_none, Option.bind_some, Option.bind_none, Option.some.injEq, Option.join, List.isEmpty_cons, List.isEmpty_nil, List.all_cons, List.all_nil, PM.owned, PM.noLS, PM.noL, PM.noLs, Bool.or_true, Bool.true_or, Bool.or_false, Bool.false_or, Bool.and_true, Bool.true_and, Bool.and_false, Bool.false_and, Bool.not_true, Bool.not_false, List.isEmpty_map, PM.setS, PM.augIxS, PM.isD, PM.isNonD, PM.isBlD, PM.isNotD, PM.sumD, PM.allD, PM.anyD, PM.absD, PM.gcdD, PM.bitsD, PM.maxD, PM.minD, reduceCtorEq, decide_true, decide_false, eq_self, Nat.zero_add, Nat.reduceAdd, Nat.reduceSub, Nat.reduceLT, Nat.reduceEqDiff, Int.reduceAdd, Int.reduceSub, Int.reduceMul, Int.cast_ofNat_Int, Int.reduceBNe, Int.reduceBEq, Int.reduceNe, Nat.reduceBEq, PySem.sizeLine_eq, Nat.reduceLeDiff, Nat.reduceMul, Nat.reducePow, Int.reduceLE, Int.reduceLT, Int.reduceNeg, Int.reducePow, Int.reduceEq, and_self, and_true, true_and, c, m2, s2, sI, noW]
theorem holds_ok {u v d : Rat} (h : Good u v d) : M__law_holds [W u, W v, W d] = .ok (false, .bl true) := by
  have b1 := h.bu
  have b2 := h.bv
  have b3 := h.bd
  have s1 := ss_prog (u := u) (v := v) (d := d) (by omega) (by omega) (by omega) h.d0
  have s2 := ss_law (u := u) (v := v) (d := d) (by omega) (by omega) (by omega) h.d0
  obtain ⟨k, f1, e1, bk⟩ := floor_law (u := u) (v := v) (d := d) (n := 494) (by omega) (by decide) (by omega) (by omega) (by omega) h.d0 h.sz
  obtain ⟨k', f2, e2⟩ := floor_prog (u := u) (v := v) (d := d) (by omega) (by omega) (by omega) h.d0
  have hk := fl_uniq f2 f1
  subst hk
  obtain ⟨j, f3, e3⟩ := floor_prog (u := -u) (v := -v) (d := d) (by rw [bs_neg]; omega) (by rw [bs_neg]; omega) (by omega) h.d0
  have up := fl_up f1 f3
  have nu := negativeW u
  have nv := negativeW v
  have ce : M_ceiling_of_sum [W u, W v, W d] = .ok (false, .int (if 0 < SS (u - k') v d then k' + 1 else k')) := by
    rw [← up]
    unfold M_ceiling_of_sum S_ceiling_of_sum
    simp only [PM.tgT, PM.tgs, PM.callE, PM.runF, PM.initE, PM.seqS, PM.asgS, PM.tgS, PM.parS, PM.appS, PM.augS, PM.dropS, PM.retS, PM.retN, PM.retV, PM.ifS, PM.forS, PM.M.thenS, PM.M.bind, PM.M.lift, PM.ret, PM.cst, PM.var, PM.pvar, PM.pk, PM.bin, PM.asB, PM.truth, PM.tru, PM.tand, PM.tor, PM.tnot, PM.vand, PM.vor, PM.vnot, PM.iff, PM.sli, PM.ono, PM.oin, PM.acons, PM.anil, PM.cnil, PM.cval, PM.cvw, PM.lstE, PM.tupE, PM.blt, PM.isi, PM.una, PM.smE, PM.src, PM.rng1, PM.rng2, PM.skip, PM.brkS, PM.cntS, PM.tgN, PM.itemsD, PM.tyD, PM.Ty.sub, PM.addD, PM.addIA, PM.subD, PM.mulD, PM.mulID, PM.fdivD, PM.modD, PM.powD, PM.ltD, PM.leD, PM.gtD, PM.geD, PM.cmpD, PM.eqD, PM.neD, PM.ixD, PM.sliceD, PM.lenD, PM.intD, PM.strD, PM.listD, PM.tupD, PM.joinD, PM.rjustD, PM.negD, List.length_cons, List.length_nil, List.getElem?_cons_zero, List.getElem?_cons_succ, List.set_cons_zero, List.set_cons_succ, List.map_cons, List.map_nil, List.cons_append, List.nil_append, List.append_nil, List.replicate, List.length_map, List.length_append, if_true, if_false, ite_true, ite_false, reduceIte, Bool.false_eq_true, decide_eq_true_eq, Option.map_some, Option.map_none, Option.bind_some, Option.bind_none, Option.some.injEq, Option.join, List.isEmpty_cons, List.isEmpty_nil, List.all_cons, List.all_nil, PM.owned, PM.noLS, PM.noL, PM.noLs, Bool.or_true, Bool.true_or, Bool.or_false, Bool.false_or, Bool.and_true, Bool.true_and, Bool.and_false, Bool.false_and, Bool.not_true, Bool.not_false, List.isEmpty_map, PM.setS, PM.augIxS, PM.isD, PM.isNonD, PM.isBlD, PM.isNotD, PM.sumD, PM.allD, PM.anyD, PM.absD, PM.gcdD, PM.bitsD, PM.maxD, PM.minD, reduceCtorEq, decide_true, decide_false, eq_self, Nat.zero_add, Nat.reduceAdd, Nat.reduceSub, Nat.reduceLT, Nat.reduceEqDiff, Int.reduceAdd, Int.reduceSub, Int.reduceMul, Int.cast_ofNat_Int, Int.reduceBNe, Int.reduceBEq, Int.reduceNe, Nat.reduceBEq, PySem.sizeLine_eq, Nat.reduceLeDiff, Nat.reduceMul, Nat.reducePow, Int.reduceLE, Int.reduceLT, Int.reduceNeg, Int.reducePow, Int.reduceEq, and_self, and_true, true_and, nu, nv, e3, noW]
  have bk' := bs_int (n := 494) bk
  have bb := bs_sub u (k' : Rat)
  have m2 := l_lessW (r := u) (s := (k' : Rat)) (by omega) (by omega)
  rw [W_int] at m2
  have s3 := ss_law (u := u - k') (v := v) (d := d) (by omega) (by omega) (by omega) h.d0
  unfold M__law_holds S__law_holds
  by_cases c : 0 < SS (u - k') v d
  · rw [if_pos c] at ce
    simp only [PM.tgT, PM.tgs, PM.callE, PM.runF, PM.initE, PM.seqS, PM.asgS, PM.tgS, PM.parS, PM.appS, PM.augS, PM.dropS, PM.retS, PM.retN, PM.retV, PM.ifS, PM.forS, PM.M.thenS, PM.M.bind, PM.M.lift, PM.ret, PM.cst, PM.var, PM.pvar, PM.pk, PM.bin, PM.asB, PM.truth, PM.tru, PM.tand, PM.tor, PM.tnot, PM.vand, PM.vor, PM.vnot, PM.iff, PM.sli, PM.ono, PM.oin, PM.acons, PM.anil, PM.cnil, PM.cval, PM.cvw, PM.lstE, PM.tupE, PM.blt, PM.isi, PM.una, PM.smE, PM.src, PM.rng1, PM.rng2, PM.skip, PM.brkS, PM.cntS, PM.tgN, PM.itemsD, PM.tyD, PM.Ty.sub, PM.addD, PM.addIA, PM.subD, PM.mulD, PM.mulID, PM.fdivD, PM.modD, PM.powD, PM.ltD, PM.leD, PM.gtD, PM.geD, PM.cmpD, PM.eqD, PM.neD, PM.ixD, PM.sliceD, PM.lenD, PM.intD, PM.strD, PM.listD, PM.tupD, PM.joinD, PM.rjustD, PM.negD, List.length_cons, List.length_nil, List.getElem?_cons_zero, List.getElem?_cons_succ, List.set_cons_zero, List.set_cons_succ, List.map_cons, List.map_nil, List.cons_append, List.nil_append, List.append_nil, List.replicate, List.length_map, List.length_append, if_true, if_false, ite_true, ite_false, reduceIte, Bool.false_eq_true, decide_eq_true_eq, Option.map_some, Option.map_none, Option.bind_some, Option.bind_none, Option.some.injEq, Option.join, List.isEmpty_cons, List.isEmpty_nil, List.all_cons, List.all_nil, PM.owned, PM.noLS, PM.noL, PM.noLs, Bool.or_true, Bool.true_or, Bool.or_false, Bool.false_or, Bool.and_true, Bool.true_and, Bool.and_false, Bool.false_and, Bool.not_true, Bool.not_false, List.isEmpty_map, PM.setS, PM.augIxS, PM.isD, PM.isNonD, PM.isBlD, PM.isNotD, PM.sumD, PM.allD, PM.anyD, PM.absD, PM.gcdD, PM.bitsD, PM.maxD, PM.minD, reduceCtorEq, decide_true, decide_false, eq_self, Nat.zero_add, Nat.reduceAdd, Nat.reduceSub, Nat.reduceLT, Nat.reduceEqDiff, Int.reduceAdd, Int.reduceSub, Int.reduceMul, Int.cast_ofNat_Int, Int.reduceBNe, Int.reduceBEq, Int.reduceNe, Nat.reduceBEq, PySem.sizeLine_eq, Nat.reduceLeDiff, Nat.reduceMul, Nat.reducePow, Int.reduceLE, Int.reduceLT, Int.reduceNeg, Int.reducePow, Int.reduceEq, and_self, and_true, true_and, s1, s2, sI, e1, e2, m2, s3, decide_eq_true c, ce, noW]
  · rw [if_neg c] at ce
    simp only [PM.tgT, PM.tgs, PM.callE, PM.runF, PM.initE, PM.seqS, PM.asgS, PM.tgS, PM.parS, PM.appS, PM.augS, PM.dropS, PM.retS, PM.retN, PM.retV, PM.ifS, PM.forS, PM.M.thenS, PM.M.bind, PM.M.lift, PM.ret, PM.cst, PM.var, PM.pvar, PM.pk, PM.bin, PM.asB, PM.truth, PM.tru, PM.tand, PM.tor, PM.tnot, PM.vand, PM.vor, PM.vnot, PM.iff, PM.sli, PM.ono, PM.oin, PM.acons, PM.anil, PM.cnil, PM.cval, PM.cvw, PM.lstE, PM.tupE, PM.blt, PM.isi, PM.una, PM.smE, PM.src, PM.rng1, PM.rng2, PM.skip, PM.brkS, PM.cntS, PM.tgN, PM.itemsD, PM.tyD, PM.Ty.sub, PM.addD, PM.addIA, PM.subD, PM.mulD, PM.mulID, PM.fdivD, PM.modD, PM.powD, PM.ltD, PM.leD, PM.gtD, PM.geD, PM.cmpD, PM.eqD, PM.neD, PM.ixD, PM.sliceD, PM.lenD, PM.intD, PM.strD, PM.listD, PM.tupD, PM.joinD, PM.rjustD, PM.negD, List.length_cons, List.length_nil, List.getElem?_cons_zero, List.getElem?_cons_succ, List.set_cons_zero, List.set_cons_succ, List.map_cons, List.map_nil, List.cons_append, List.nil_append, List.append_nil, List.replicate, List.length_map, List.length_append, if_true, if_false, ite_true, ite_false, reduceIte, Bool.false_eq_true, decide_eq_true_eq, Option.map_some, Option.map_none, Option.bind_some, Option.bind_none, Option.some.injEq, Option.join, List.isEmpty_cons, List.isEmpty_nil, List.all_cons, List.all_nil, PM.owned, PM.noLS, PM.noL, PM.noLs, Bool.or_true, Bool.true_or, Bool.or_false, Bool.false_or, Bool.and_true, Bool.true_and, Bool.and_false, Bool.false_and, Bool.not_true, Bool.not_false, List.isEmpty_map, PM.setS, PM.augIxS, PM.isD, PM.isNonD, PM.isBlD, PM.isNotD, PM.sumD, PM.allD, PM.anyD, PM.absD, PM.gcdD, PM.bitsD, PM.maxD, PM.minD, reduceCtorEq, decide_true, decide_false, eq_self, Nat.zero_add, Nat.reduceAdd, Nat.reduceSub, Nat.reduceLT, Nat.reduceEqDiff, Int.reduceAdd, Int.reduceSub, Int.reduceMul, Int.cast_ofNat_Int, Int.reduceBNe, Int.reduceBEq, Int.reduceNe, Nat.reduceBEq, PySem.sizeLine_eq, Nat.reduceLeDiff, Nat.reduceMul, Nat.reducePow, Int.reduceLE, Int.reduceLT, Int.reduceNeg, Int.reducePow, Int.reduceEq, and_self, and_true, true_and, s1, s2, sI, e1, e2, m2, s3, decide_eq_false c, ce, noW]
theorem lw_le {p q : Int} (h : q ≠ 0) : (lw p q).1.natAbs ≤ p.natAbs ∧ (lw p q).2.natAbs ≤ q.natAbs := by
  obtain ⟨e1, e2⟩ := lw_eq (p := p) h
  have g := gg_pos (p := p) h
  have h1 := mul_le_abs (x := (lw p q).1) g
  have h2 := mul_le_abs (x := (lw p q).2) g
  rw [e1, sgn_abs h] at h1
  rw [e2, Int.natAbs_natCast] at h2
  exact ⟨h1, h2⟩
theorem rat_le {p q : Int} {r : Rat} (h : q ≠ 0) (e : r = (p : Rat) / (q : Rat)) : r.num.natAbs ≤ p.natAbs ∧ r.den ≤ q.natAbs := by
  have h1 := lw_le (p := p) h
  rw [lw_T h (r := r) (by rw [Rat.divInt_eq_div]; exact e.symm)] at h1
  simpa using h1
/-- r has few bits in all -/
structure Few (r : Rat) : Prop where
  b : bs r ≤ 77
  p : r.num.natAbs * r.den < 2 ^ 81
  q : r.den < 2 ^ 64
theorem mul_le {a b c d : Nat} (h : a ≤ c) (k : b ≤ d) : a * b ≤ c * d := Nat.mul_le_mul h k
theorem few_mk {p q : Int} (hq : 0 < q) (c : (p.natAbs < 2 ^ 77 ∧ q ≤ 12) ∨ (p.natAbs ≤ 1009 ∧ q < 2 ^ 64)) : ∃ r, Few r ∧ M__law_lowest [.int p, .int q] = .ok (false, W r) := by
  obtain ⟨r, e, b, f⟩ := frac (p := p) (q := q) 76 hq (by rcases c with c | c <;> omega) (by rcases c with c | c <;> omega) (by decide)
  obtain ⟨l1, l2⟩ := rat_le (by omega) e
  refine ⟨r, ⟨b, ?_, ?_⟩, f⟩
  · have := mul_le l1 l2
    rcases c with ⟨c1, c2⟩ | ⟨c1, c2⟩
    · have := mul_le (Nat.le_of_lt c1) (show q.natAbs ≤ 12 by omega)
      omega
    · have := mul_le c1 (show q.natAbs ≤ 2 ^ 64 by omega)
      omega
  · rcases c with ⟨c1, c2⟩ | ⟨c1, c2⟩ <;> omega
end LawW

namespace LawW
open PySem L2 PM
theorem h10 : Int.natAbs 10 < 18446744073709551616 := by decide
theorem frac_tail {l : List Int} {k p q kind : Int} {b : Int} (nl : noLs (l.map D.int) = true) (hb : M__law_pick [.lst (l.map D.int), .int (k + 3), .int 2] = .ok (false, .int b)) (hq : 0 < q) (c : (p.natAbs < 2 ^ 77 ∧ q ≤ 12) ∨ (p.natAbs ≤ 1009 ∧ q < 2 ^ 64)) :
    ∃ r, Few r ∧ seqS T7__law_fraction T8__law_fraction [some (false, .lst (l.map D.int)), some (false, .int k), some (false, .int p), some (false, .int q), some (false, .int kind)] = .rt (false, W r) := by
  by_cases h : b = 1
  · obtain ⟨r, f, e⟩ := few_mk (p := -p) hq (by rw [Int.natAbs_neg]; exact c)
    refine ⟨r, f, ?_⟩
    unfold T7__law_fraction T8__law_fraction
    simp only [PM.tgT, PM.tgs, PM.callE, PM.runF, PM.initE, PM.seqS, PM.asgS, PM.tgS, PM.parS, PM.appS, PM.augS, PM.dropS, PM.retS, PM.retN, PM.retV, PM.ifS, PM.forS, PM.M.thenS, PM.M.bind, PM.M.lift, PM.ret, PM.cst, PM.var, PM.pvar, PM.pk, PM.bin, PM.asB, PM.truth, PM.tru, PM.tand, PM.tor, PM.tnot, PM.vand, PM.vor, PM.vnot, PM.iff, PM.sli, PM.ono, PM.oin, PM.acons, PM.anil, PM.cnil, PM.cval, PM.cvw, PM.lstE, PM.tupE, PM.blt, PM.isi, PM.una, PM.smE, PM.src, PM.rng1, PM.rng2, PM.skip, PM.brkS, PM.cntS, PM.tgN, PM.itemsD, PM.tyD, PM.Ty.sub, PM.addD, PM.addIA, PM.subD, PM.mulD, PM.mulID, PM.fdivD, PM.modD, PM.powD, PM.ltD, PM.leD, PM.gtD, PM.geD, PM.cmpD, PM.eqD, PM.neD, PM.ixD, PM.sliceD, PM.lenD, PM.intD, PM.strD, PM.listD, PM.tupD, PM.joinD, PM.rjustD, PM.negD, List.length_cons, List.length_nil, List.getElem?_cons_zero, List.getElem?_cons_succ, List.set_cons_zero, List.set_cons_succ, List.map_cons, List.map_nil, List.cons_append, List.nil_append, List.append_nil, List.replicate, List.length_map, List.length_append, if_true, if_false, ite_true, ite_false, reduceIte, Bool.false_eq_true, decide_eq_true_eq, Option.map_some, Option.map_none, Option.bind_some, Option.bind_none, Option.some.injEq, Option.join, List.isEmpty_cons, List.isEmpty_nil, List.all_cons, List.all_nil, PM.owned, PM.noLS, PM.noL, PM.noLs, Bool.or_true, Bool.true_or, Bool.or_false, Bool.false_or, Bool.and_true, Bool.true_and, Bool.and_false, Bool.false_and, Bool.not_true, Bool.not_false, List.isEmpty_map, PM.setS, PM.augIxS, PM.isD, PM.isNonD, PM.isBlD, PM.isNotD, PM.sumD, PM.allD, PM.anyD, PM.absD, PM.gcdD, PM.bitsD, PM.maxD, PM.minD, reduceCtorEq, decide_true, decide_false, eq_self, Nat.zero_add, Nat.reduceAdd, Nat.reduceSub, Nat.reduceLT, Nat.reduceEqDiff, Int.reduceAdd, Int.reduceSub, Int.reduceMul, Int.cast_ofNat_Int, Int.reduceBNe, Int.reduceBEq, Int.reduceNe, Nat.reduceBEq, PySem.sizeLine_eq, Nat.reduceLeDiff, Nat.reduceMul, Nat.reducePow, Int.reduceLE, Int.reduceLT, Int.reduceNeg, Int.reducePow, Int.reduceEq, and_self, and_true, true_and, hb, nl, eqv_int, decide_eq_true h, e]
  · obtain ⟨r, f, e⟩ := few_mk (p := p) hq c
    refine ⟨r, f, ?_⟩
    unfold T7__law_fraction T8__law_fraction
    simp only [PM.tgT, PM.tgs, PM.callE, PM.runF, PM.initE, PM.seqS, PM.asgS, PM.tgS, PM.parS, PM.appS, PM.augS, PM.dropS, PM.retS, PM.retN, PM.retV, PM.ifS, PM.forS, PM.M.thenS, PM.M.bind, PM.M.lift, PM.ret, PM.cst, PM.var, PM.pvar, PM.pk, PM.bin, PM.asB, PM.truth, PM.tru, PM.tand, PM.tor, PM.tnot, PM.vand, PM.vor, PM.vnot, PM.iff, PM.sli, PM.ono, PM.oin, PM.acons, PM.anil, PM.cnil, PM.cval, PM.cvw, PM.lstE, PM.tupE, PM.blt, PM.isi, PM.una, PM.smE, PM.src, PM.rng1, PM.rng2, PM.skip, PM.brkS, PM.cntS, PM.tgN, PM.itemsD, PM.tyD, PM.Ty.sub, PM.addD, PM.addIA, PM.subD, PM.mulD, PM.mulID, PM.fdivD, PM.modD, PM.powD, PM.ltD, PM.leD, PM.gtD, PM.geD, PM.cmpD, PM.eqD, PM.neD, PM.ixD, PM.sliceD, PM.lenD, PM.intD, PM.strD, PM.listD, PM.tupD, PM.joinD, PM.rjustD, PM.negD, List.length_cons, List.length_nil, List.getElem?_cons_zero, List.getElem?_cons_succ, List.set_cons_zero, List.set_cons_succ, List.map_cons, List.map_nil, List.cons_append, List.nil_append, List.append_nil, List.replicate, List.length_map, List.length_append, if_true, if_false, ite_true, ite_false, reduceIte, Bool.false_eq_true, decide_eq_true_eq, Option.map_some, Option.map_none, Option.bind_some, Option.bind_none, Option.some.injEq, Option.join, List.isEmpty_cons, List.isEmpty_nil, List.all_cons, List.all_nil, PM.owned, PM.noLS, PM.noL, PM.noLs, Bool.or_true, Bool.true_or, Bool.or_false, Bool.false_or, Bool.and_true, Bool.true_and, Bool.and_false, Bool.false_and, Bool.not_true, Bool.not_false, List.isEmpty_map, PM.setS, PM.augIxS, PM.isD, PM.isNonD, PM.isBlD, PM.isNotD, PM.sumD, PM.allD, PM.anyD, PM.absD, PM.gcdD, PM.bitsD, PM.maxD, PM.minD, reduceCtorEq, decide_true, decide_false, eq_self, Nat.zero_add, Nat.reduceAdd, Nat.reduceSub, Nat.reduceLT, Nat.reduceEqDiff, Int.reduceAdd, Int.reduceSub, Int.reduceMul, Int.cast_ofNat_Int, Int.reduceBNe, Int.reduceBEq, Int.reduceNe, Nat.reduceBEq, PySem.sizeLine_eq, Nat.reduceLeDiff, Nat.reduceMul, Nat.reducePow, Int.reduceLE, Int.reduceLT, Int.reduceNeg, Int.reducePow, Int.reduceEq, and_self, and_true, true_and, hb, nl, eqv_int, decide_eq_false h, e]
theorem fraction_ok {n : Nat} {l : List Int} (h : Nums n l) {k : Int} (k0 : 0 ≤ k) (k1 : k + 3 < n) : ∃ r, Few r ∧ M__law_fraction [.lst (l.map D.int), .int k] = .ok (false, W r) := by
  have nl := nlst l
  obtain ⟨a0, e0, a00, a01⟩ := h.at k0 (by omega)
  obtain ⟨a1, e1, a10, a11⟩ := h.at (i := k + 1) (by omega) (by omega)
  obtain ⟨a2, e2, a20, a21⟩ := h.at (i := k + 2) (by omega) (by omega)
  obtain ⟨a3, e3, a30, a31⟩ := h.at (i := k + 3) (by omega) k1
  have p0 := pick_ok e0 (m := 1009) (by decide) (by decide)
  have p1 := pick_ok e1 (m := 12) (by decide) (by decide)
  have p2 := pick_ok e2 (m := 6) (by decide) (by decide)
  have p3 := pick_ok e3 (m := 2) (by decide) (by decide)
  have b0 : 0 ≤ a0 % 1009 ∧ a0 % 1009 < 1009 := by omega
  have b1 : 0 ≤ a1 % 12 ∧ a1 % 12 < 12 := by omega
  have b2 : 0 ≤ a2 % 6 ∧ a2 % 6 < 6 := by omega
  generalize a0 % 1009 = p at *
  generalize a1 % 12 = q at *
  generalize a2 % 6 = kd at *
  refine Exists.imp (fun r (h : Few r ∧ S__law_fraction _ = .rt (false, W r)) => ⟨h.1, run_rt rfl h.2⟩) ?_
  unfold S__law_fraction
  show ∃ r, Few r ∧ seqS _ _ [some (false, .lst (l.map D.int)), some (false, .int k), none, none, none] = _
  have t1 : T1__law_fraction [some (false, .lst (l.map D.int)), some (false, .int k), none, none, none] = .nx [some (false, .lst (l.map D.int)), some (false, .int k), some (false, .int p), none, none] := by
    unfold T1__law_fraction
    simp only [PM.tgT, PM.tgs, PM.callE, PM.runF, PM.initE, PM.seqS, PM.asgS, PM.tgS, PM.parS, PM.appS, PM.augS, PM.dropS, PM.retS, PM.retN, PM.retV, PM.ifS, PM.forS, PM.M.thenS, PM.M.bind, PM.M.lift, PM.ret, PM.cst, PM.var, PM.pvar, PM.pk, PM.bin, PM.asB, PM.truth, PM.tru, PM.tand, PM.tor, PM.tnot, PM.vand, PM.vor, PM.vnot, PM.iff, PM.sli, PM.ono, PM.oin, PM.acons, PM.anil, PM.cnil, PM.cval, PM.cvw, PM.lstE, PM.tupE, PM.blt, PM.isi, PM.una, PM.smE, PM.src, PM.rng1, PM.rng2, PM.skip, PM.brkS, PM.cntS, PM.tgN, PM.itemsD, PM.tyD, PM.Ty.sub, PM.addD, PM.addIA, PM.subD, PM.mulD, PM.mulID, PM.fdivD, PM.modD, PM.powD, PM.ltD, PM.leD, PM.gtD, PM.geD, PM.cmpD, PM.eqD, PM.neD, PM.ixD, PM.sliceD, PM.lenD, PM.intD, PM.strD, PM.listD, PM.tupD, PM.joinD, PM.rjustD, PM.negD, List.length_cons, List.length_nil, List.getElem?_cons_zero, List.getElem?_cons_succ, List.set_cons_zero, List.set_cons_succ, List.map_cons, List.map_nil, List.cons_append, List.nil_append, List.append_nil, List.replicate, List.length_map, List.length_append, if_true, if_false, ite_true, ite_false, reduceIte, Bool.false_eq_true, decide_eq_true_eq, Option.map_some, Option.map_none, Option.bind_some, Option.bind_none, Option.some.injEq, Option.join, List.isEmpty_cons, List.isEmpty_nil, List.all_cons, List.all_nil, PM.owned, PM.noLS, PM.noL, PM.noLs, Bool.or_true, Bool.true_or, Bool.or_false, Bool.false_or, Bool.and_true, Bool.true_and, Bool.and_false, Bool.false_and, Bool.not_true, Bool.not_false, List.isEmpty_map, PM.setS, PM.augIxS, PM.isD, PM.isNonD, PM.isBlD, PM.isNotD, PM.sumD, PM.allD, PM.anyD, PM.absD, PM.gcdD, PM.bitsD, PM.maxD, PM.minD, reduceCtorEq, decide_true, decide_false, eq_self, Nat.zero_add, Nat.reduceAdd, Nat.reduceSub, Nat.reduceLT, Nat.reduceEqDiff, Int.reduceAdd, Int.reduceSub, Int.reduceMul, Int.cast_ofNat_Int, Int.reduceBNe, Int.reduceBEq, Int.reduceNe, Nat.reduceBEq, PySem.sizeLine_eq, Nat.reduceLeDiff, Nat.reduceMul, Nat.reducePow, Int.reduceLE, Int.reduceLT, Int.reduceNeg, Int.reducePow, Int.reduceEq, and_self, and_true, true_and, p0, nl]
  have t2 : T2__law_fraction [some (false, .lst (l.map D.int)), some (false, .int k), some (false, .int p), none, none] = .nx [some (false, .lst (l.map D.int)), some (false, .int k), some (false, .int p), some (false, .int (q + 1)), none] := by
    unfold T2__law_fraction
    simp only [PM.tgT, PM.tgs, PM.callE, PM.runF, PM.initE, PM.seqS, PM.asgS, PM.tgS, PM.parS, PM.appS, PM.augS, PM.dropS, PM.retS, PM.retN, PM.retV, PM.ifS, PM.forS, PM.M.thenS, PM.M.bind, PM.M.lift, PM.ret, PM.cst, PM.var, PM.pvar, PM.pk, PM.bin, PM.asB, PM.truth, PM.tru, PM.tand, PM.tor, PM.tnot, PM.vand, PM.vor, PM.vnot, PM.iff, PM.sli, PM.ono, PM.oin, PM.acons, PM.anil, PM.cnil, PM.cval, PM.cvw, PM.lstE, PM.tupE, PM.blt, PM.isi, PM.una, PM.smE, PM.src, PM.rng1, PM.rng2, PM.skip, PM.brkS, PM.cntS, PM.tgN, PM.itemsD, PM.tyD, PM.Ty.sub, PM.addD, PM.addIA, PM.subD, PM.mulD, PM.mulID, PM.fdivD, PM.modD, PM.powD, PM.ltD, PM.leD, PM.gtD, PM.geD, PM.cmpD, PM.eqD, PM.neD, PM.ixD, PM.sliceD, PM.lenD, PM.intD, PM.strD, PM.listD, PM.tupD, PM.joinD, PM.rjustD, PM.negD, List.length_cons, List.length_nil, List.getElem?_cons_zero, List.getElem?_cons_succ, List.set_cons_zero, List.set_cons_succ, List.map_cons, List.map_nil, List.cons_append, List.nil_append, List.append_nil, List.replicate, List.length_map, List.length_append, if_true, if_false, ite_true, ite_false, reduceIte, Bool.false_eq_true, decide_eq_true_eq, Option.map_some, Option.map_none, Option.bind_some, Option.bind_none, Option.some.injEq, Option.join, List.isEmpty_cons, List.isEmpty_nil, List.all_cons, List.all_nil, PM.owned, PM.noLS, PM.noL, PM.noLs, Bool.or_true, Bool.true_or, Bool.or_false, Bool.false_or, Bool.and_true, Bool.true_and, Bool.and_false, Bool.false_and, Bool.not_true, Bool.not_false, List.isEmpty_map, PM.setS, PM.augIxS, PM.isD, PM.isNonD, PM.isBlD, PM.isNotD, PM.sumD, PM.allD, PM.anyD, PM.absD, PM.gcdD, PM.bitsD, PM.maxD, PM.minD, reduceCtorEq, decide_true, decide_false, eq_self, Nat.zero_add, Nat.reduceAdd, Nat.reduceSub, Nat.reduceLT, Nat.reduceEqDiff, Int.reduceAdd, Int.reduceSub, Int.reduceMul, Int.cast_ofNat_Int, Int.reduceBNe, Int.reduceBEq, Int.reduceNe, Nat.reduceBEq, PySem.sizeLine_eq, Nat.reduceLeDiff, Nat.reduceMul, Nat.reducePow, Int.reduceLE, Int.reduceLT, Int.reduceNeg, Int.reducePow, Int.reduceEq, and_self, and_true, true_and, p1, nl]
  have t3 : T3__law_fraction [some (false, .lst (l.map D.int)), some (false, .int k), some (false, .int p), some (false, .int (q + 1)), none] = .nx [some (false, .lst (l.map D.int)), some (false, .int k), some (false, .int p), some (false, .int (q + 1)), some (false, .int kd)] := by
    unfold T3__law_fraction
    simp only [PM.tgT, PM.tgs, PM.callE, PM.runF, PM.initE, PM.seqS, PM.asgS, PM.tgS, PM.parS, PM.appS, PM.augS, PM.dropS, PM.retS, PM.retN, PM.retV, PM.ifS, PM.forS, PM.M.thenS, PM.M.bind, PM.M.lift, PM.ret, PM.cst, PM.var, PM.pvar, PM.pk, PM.bin, PM.asB, PM.truth, PM.tru, PM.tand, PM.tor, PM.tnot, PM.vand, PM.vor, PM.vnot, PM.iff, PM.sli, PM.ono, PM.oin, PM.acons, PM.anil, PM.cnil, PM.cval, PM.cvw, PM.lstE, PM.tupE, PM.blt, PM.isi, PM.una, PM.smE, PM.src, PM.rng1, PM.rng2, PM.skip, PM.brkS, PM.cntS, PM.tgN, PM.itemsD, PM.tyD, PM.Ty.sub, PM.addD, PM.addIA, PM.subD, PM.mulD, PM.mulID, PM.fdivD, PM.modD, PM.powD, PM.ltD, PM.leD, PM.gtD, PM.geD, PM.cmpD, PM.eqD, PM.neD, PM.ixD, PM.sliceD, PM.lenD, PM.intD, PM.strD, PM.listD, PM.tupD, PM.joinD, PM.rjustD, PM.negD, List.length_cons, List.length_nil, List.getElem?_cons_zero, List.getElem?_cons_succ, List.set_cons_zero, List.set_cons_succ, List.map_cons, List.map_nil, List.cons_append, List.nil_append, List.append_nil, List.replicate, List.length_map, List.length_append, if_true, if_false, ite_true, ite_false, reduceIte, Bool.false_eq_true, decide_eq_true_eq, Option.map_some, Option.map_none, Option.bind_some, Option.bind_none, Option.some.injEq, Option.join, List.isEmpty_cons, List.isEmpty_nil, List.all_cons, List.all_nil, PM.owned, PM.noLS, PM.noL, PM.noLs, Bool.or_true, Bool.true_or, Bool.or_false, Bool.false_or, Bool.and_true, Bool.true_and, Bool.and_false, Bool.false_and, Bool.not_true, Bool.not_false, List.isEmpty_map, PM.setS, PM.augIxS, PM.isD, PM.isNonD, PM.isBlD, PM.isNotD, PM.sumD, PM.allD, PM.anyD, PM.absD, PM.gcdD, PM.bitsD, PM.maxD, PM.minD, reduceCtorEq, decide_true, decide_false, eq_self, Nat.zero_add, Nat.reduceAdd, Nat.reduceSub, Nat.reduceLT, Nat.reduceEqDiff, Int.reduceAdd, Int.reduceSub, Int.reduceMul, Int.cast_ofNat_Int, Int.reduceBNe, Int.reduceBEq, Int.reduceNe, Nat.reduceBEq, PySem.sizeLine_eq, Nat.reduceLeDiff, Nat.reduceMul, Nat.reducePow, Int.reduceLE, Int.reduceLT, Int.reduceNeg, Int.reducePow, Int.reduceEq, and_self, and_true, true_and, p2, nl]
  rw [seq_nx t1, seq_nx t2, seq_nx t3]
  have m1 : mulOk p 100000000000000000000 = true := mulOk_l (by omega) (by omega)
  have m2 : mulOk 1009 (q + 1) = true := mulOk_l (by decide) (by decide)
  have m3 : mulOk (q + 1) 1000000000000000000 = true := mulOk_l (by omega) (by omega)
  have t4 : ∃ p', 0 ≤ p' ∧ p' < 1009 ∧ T4__law_fraction [some (false, .lst (l.map D.int)), some (false, .int k), some (false, .int p), some (false, .int (q + 1)), some (false, .int kd)] = .nx [some (false, .lst (l.map D.int)), some (false, .int k), some (false, .int p'), some (false, .int (q + 1)), some (false, .int kd)] := by
    by_cases c : kd < 2
    · refine ⟨p % 9, by omega, by omega, ?_⟩
      unfold T4__law_fraction
      simp only [PM.tgT, PM.tgs, PM.callE, PM.runF, PM.initE, PM.seqS, PM.asgS, PM.tgS, PM.parS, PM.appS, PM.augS, PM.dropS, PM.retS, PM.retN, PM.retV, PM.ifS, PM.forS, PM.M.thenS, PM.M.bind, PM.M.lift, PM.ret, PM.cst, PM.var, PM.pvar, PM.pk, PM.bin, PM.asB, PM.truth, PM.tru, PM.tand, PM.tor, PM.tnot, PM.vand, PM.vor, PM.vnot, PM.iff, PM.sli, PM.ono, PM.oin, PM.acons, PM.anil, PM.cnil, PM.cval, PM.cvw, PM.lstE, PM.tupE, PM.blt, PM.isi, PM.una, PM.smE, PM.src, PM.rng1, PM.rng2, PM.skip, PM.brkS, PM.cntS, PM.tgN, PM.itemsD, PM.tyD, PM.Ty.sub, PM.addD, PM.addIA, PM.subD, PM.mulD, PM.mulID, PM.fdivD, PM.modD, PM.powD, PM.ltD, PM.leD, PM.gtD, PM.geD, PM.cmpD, PM.eqD, PM.neD, PM.ixD, PM.sliceD, PM.lenD, PM.intD, PM.strD, PM.listD, PM.tupD, PM.joinD, PM.rjustD, PM.negD, List.length_cons, List.length_nil, List.getElem?_cons_zero, List.getElem?_cons_succ, List.set_cons_zero, List.set_cons_succ, List.map_cons, List.map_nil, List.cons_append, List.nil_append, List.append_nil, List.replicate, List.length_map, List.length_append, if_true, if_false, ite_true, ite_false, reduceIte, Bool.false_eq_true, decide_eq_true_eq, Option.map_some, Option.map_none, Option.bind_some, Option.bind_none, Option.some.injEq, Option.join, List.isEmpty_cons, List.isEmpty_nil, List.all_cons, List.all_nil, PM.owned, PM.noLS, PM.noL, PM.noLs, Bool.or_true, Bool.true_or, Bool.or_false, Bool.false_or, Bool.and_true, Bool.true_and, Bool.and_false, Bool.false_and, Bool.not_true, Bool.not_false, List.isEmpty_map, PM.setS, PM.augIxS, PM.isD, PM.isNonD, PM.isBlD, PM.isNotD, PM.sumD, PM.allD, PM.anyD, PM.absD, PM.gcdD, PM.bitsD, PM.maxD, PM.minD, reduceCtorEq, decide_true, decide_false, eq_self, Nat.zero_add, Nat.reduceAdd, Nat.reduceSub, Nat.reduceLT, Nat.reduceEqDiff, Int.reduceAdd, Int.reduceSub, Int.reduceMul, Int.cast_ofNat_Int, Int.reduceBNe, Int.reduceBEq, Int.reduceNe, Nat.reduceBEq, PySem.sizeLine_eq, Nat.reduceLeDiff, Nat.reduceMul, Nat.reducePow, Int.reduceLE, Int.reduceLT, Int.reduceNeg, Int.reducePow, Int.reduceEq, and_self, and_true, true_and, decide_eq_true c]
    · refine ⟨p, b0.1, b0.2, ?_⟩
      unfold T4__law_fraction
      simp only [PM.tgT, PM.tgs, PM.callE, PM.runF, PM.initE, PM.seqS, PM.asgS, PM.tgS, PM.parS, PM.appS, PM.augS, PM.dropS, PM.retS, PM.retN, PM.retV, PM.ifS, PM.forS, PM.M.thenS, PM.M.bind, PM.M.lift, PM.ret, PM.cst, PM.var, PM.pvar, PM.pk, PM.bin, PM.asB, PM.truth, PM.tru, PM.tand, PM.tor, PM.tnot, PM.vand, PM.vor, PM.vnot, PM.iff, PM.sli, PM.ono, PM.oin, PM.acons, PM.anil, PM.cnil, PM.cval, PM.cvw, PM.lstE, PM.tupE, PM.blt, PM.isi, PM.una, PM.smE, PM.src, PM.rng1, PM.rng2, PM.skip, PM.brkS, PM.cntS, PM.tgN, PM.itemsD, PM.tyD, PM.Ty.sub, PM.addD, PM.addIA, PM.subD, PM.mulD, PM.mulID, PM.fdivD, PM.modD, PM.powD, PM.ltD, PM.leD, PM.gtD, PM.geD, PM.cmpD, PM.eqD, PM.neD, PM.ixD, PM.sliceD, PM.lenD, PM.intD, PM.strD, PM.listD, PM.tupD, PM.joinD, PM.rjustD, PM.negD, List.length_cons, List.length_nil, List.getElem?_cons_zero, List.getElem?_cons_succ, List.set_cons_zero, List.set_cons_succ, List.map_cons, List.map_nil, List.cons_append, List.nil_append, List.append_nil, List.replicate, List.length_map, List.length_append, if_true, if_false, ite_true, ite_false, reduceIte, Bool.false_eq_true, decide_eq_true_eq, Option.map_some, Option.map_none, Option.bind_some, Option.bind_none, Option.some.injEq, Option.join, List.isEmpty_cons, List.isEmpty_nil, List.all_cons, List.all_nil, PM.owned, PM.noLS, PM.noL, PM.noLs, Bool.or_true, Bool.true_or, Bool.or_false, Bool.false_or, Bool.and_true, Bool.true_and, Bool.and_false, Bool.false_and, Bool.not_true, Bool.not_false, List.isEmpty_map, PM.setS, PM.augIxS, PM.isD, PM.isNonD, PM.isBlD, PM.isNotD, PM.sumD, PM.allD, PM.anyD, PM.absD, PM.gcdD, PM.bitsD, PM.maxD, PM.minD, reduceCtorEq, decide_true, decide_false, eq_self, Nat.zero_add, Nat.reduceAdd, Nat.reduceSub, Nat.reduceLT, Nat.reduceEqDiff, Int.reduceAdd, Int.reduceSub, Int.reduceMul, Int.cast_ofNat_Int, Int.reduceBNe, Int.reduceBEq, Int.reduceNe, Nat.reduceBEq, PySem.sizeLine_eq, Nat.reduceLeDiff, Nat.reduceMul, Nat.reducePow, Int.reduceLE, Int.reduceLT, Int.reduceNeg, Int.reducePow, Int.reduceEq, and_self, and_true, true_and, decide_eq_false c]
  obtain ⟨p', c0, c1, t4⟩ := t4
  rw [seq_nx t4]
  have m1 : mulOk p' 100000000000000000000 = true := mulOk_l (by omega) (by omega)
  by_cases c4 : kd = 4
  · have t5 : T5__law_fraction [some (false, .lst (l.map D.int)), some (false, .int k), some (false, .int p'), some (false, .int (q + 1)), some (false, .int kd)] = .nx [some (false, .lst (l.map D.int)), some (false, .int k), some (false, .int (p' * 100000000000000000000 + 1009 * (q + 1) + kd)), some (false, .int (q + 1)), some (false, .int kd)] := by
      unfold T5__law_fraction
      simp only [PM.tgT, PM.tgs, PM.callE, PM.runF, PM.initE, PM.seqS, PM.asgS, PM.tgS, PM.parS, PM.appS, PM.augS, PM.dropS, PM.retS, PM.retN, PM.retV, PM.ifS, PM.forS, PM.M.thenS, PM.M.bind, PM.M.lift, PM.ret, PM.cst, PM.var, PM.pvar, PM.pk, PM.bin, PM.asB, PM.truth, PM.tru, PM.tand, PM.tor, PM.tnot, PM.vand, PM.vor, PM.vnot, PM.iff, PM.sli, PM.ono, PM.oin, PM.acons, PM.anil, PM.cnil, PM.cval, PM.cvw, PM.lstE, PM.tupE, PM.blt, PM.isi, PM.una, PM.smE, PM.src, PM.rng1, PM.rng2, PM.skip, PM.brkS, PM.cntS, PM.tgN, PM.itemsD, PM.tyD, PM.Ty.sub, PM.addD, PM.addIA, PM.subD, PM.mulD, PM.mulID, PM.fdivD, PM.modD, PM.powD, PM.ltD, PM.leD, PM.gtD, PM.geD, PM.cmpD, PM.eqD, PM.neD, PM.ixD, PM.sliceD, PM.lenD, PM.intD, PM.strD, PM.listD, PM.tupD, PM.joinD, PM.rjustD, PM.negD, List.length_cons, List.length_nil, List.getElem?_cons_zero, List.getElem?_cons_succ, List.set_cons_zero, List.set_cons_succ, List.map_cons, List.map_nil, List.cons_append, List.nil_append, List.append_nil, List.replicate, List.length_map, List.length_append, if_true, if_false, ite_true, ite_false, reduceIte, Bool.false_eq_true, decide_eq_true_eq, Option.map_some, Option.map_none, Option.bind_some, Option.bind_none, Option.some.injEq, Option.join, List.isEmpty_cons, List.isEmpty_nil, List.all_cons, List.all_nil, PM.owned, PM.noLS, PM.noL, PM.noLs, Bool.or_true, Bool.true_or, Bool.or_false, Bool.false_or, Bool.and_true, Bool.true_and, Bool.and_false, Bool.false_and, Bool.not_true, Bool.not_false, List.isEmpty_map, PM.setS, PM.augIxS, PM.isD, PM.isNonD, PM.isBlD, PM.isNotD, PM.sumD, PM.allD, PM.anyD, PM.absD, PM.gcdD, PM.bitsD, PM.maxD, PM.minD, reduceCtorEq, decide_true, decide_false, eq_self, Nat.zero_add, Nat.reduceAdd, Nat.reduceSub, Nat.reduceLT, Nat.reduceEqDiff, Int.reduceAdd, Int.reduceSub, Int.reduceMul, Int.cast_ofNat_Int, Int.reduceBNe, Int.reduceBEq, Int.reduceNe, Nat.reduceBEq, PySem.sizeLine_eq, Nat.reduceLeDiff, Nat.reduceMul, Nat.reducePow, Int.reduceLE, Int.reduceLT, Int.reduceNeg, Int.reducePow, Int.reduceEq, and_self, and_true, true_and, eqv_int, decide_eq_true c4, Int.reduceToNat, h10, m1, m2]
    have t6 : ∀ x : Int, T6__law_fraction [some (false, .lst (l.map D.int)), some (false, .int k), some (false, .int x), some (false, .int (q + 1)), some (false, .int kd)] = .nx [some (false, .lst (l.map D.int)), some (false, .int k), some (false, .int x), some (false, .int (q + 1)), some (false, .int kd)] := fun x => by
      have c5 : ¬ kd = 5 := by omega
      unfold T6__law_fraction
      simp only [PM.tgT, PM.tgs, PM.callE, PM.runF, PM.initE, PM.seqS, PM.asgS, PM.tgS, PM.parS, PM.appS, PM.augS, PM.dropS, PM.retS, PM.retN, PM.retV, PM.ifS, PM.forS, PM.M.thenS, PM.M.bind, PM.M.lift, PM.ret, PM.cst, PM.var, PM.pvar, PM.pk, PM.bin, PM.asB, PM.truth, PM.tru, PM.tand, PM.tor, PM.tnot, PM.vand, PM.vor, PM.vnot, PM.iff, PM.sli, PM.ono, PM.oin, PM.acons, PM.anil, PM.cnil, PM.cval, PM.cvw, PM.lstE, PM.tupE, PM.blt, PM.isi, PM.una, PM.smE, PM.src, PM.rng1, PM.rng2, PM.skip, PM.brkS, PM.cntS, PM.tgN, PM.itemsD, PM.tyD, PM.Ty.sub, PM.addD, PM.addIA, PM.subD, PM.mulD, PM.mulID, PM.fdivD, PM.modD, PM.powD, PM.ltD, PM.leD, PM.gtD, PM.geD, PM.cmpD, PM.eqD, PM.neD, PM.ixD, PM.sliceD, PM.lenD, PM.intD, PM.strD, PM.listD, PM.tupD, PM.joinD, PM.rjustD, PM.negD, List.length_cons, List.length_nil, List.getElem?_cons_zero, List.getElem?_cons_succ, List.set_cons_zero, List.set_cons_succ, List.map_cons, List.map_nil, List.cons_append, List.nil_append, List.append_nil, List.replicate, List.length_map, List.length_append, if_true, if_false, ite_true, ite_false, reduceIte, Bool.false_eq_true, decide_eq_true_eq, Option.map_some, Option.map_none, Option.bind_some, Option.bind_none, Option.some.injEq, Option.join, List.isEmpty_cons, List.isEmpty_nil, List.all_cons, List.all_nil, PM.owned, PM.noLS, PM.noL, PM.noLs, Bool.or_true, Bool.true_or, Bool.or_false, Bool.false_or, Bool.and_true, Bool.true_and, Bool.and_false, Bool.false_and, Bool.not_true, Bool.not_false, List.isEmpty_map, PM.setS, PM.augIxS, PM.isD, PM.isNonD, PM.isBlD, PM.isNotD, PM.sumD, PM.allD, PM.anyD, PM.absD, PM.gcdD, PM.bitsD, PM.maxD, PM.minD, reduceCtorEq, decide_true, decide_false, eq_self, Nat.zero_add, Nat.reduceAdd, Nat.reduceSub, Nat.reduceLT, Nat.reduceEqDiff, Int.reduceAdd, Int.reduceSub, Int.reduceMul, Int.cast_ofNat_Int, Int.reduceBNe, Int.reduceBEq, Int.reduceNe, Nat.reduceBEq, PySem.sizeLine_eq, Nat.reduceLeDiff, Nat.reduceMul, Nat.reducePow, Int.reduceLE, Int.reduceLT, Int.reduceNeg, Int.reducePow, Int.reduceEq, and_self, and_true, true_and, eqv_int, decide_eq_false c5]
    rw [seq_nx t5, seq_nx (t6 _)]
    exact frac_tail nl p3 (by omega) (.inl ⟨by omega, by omega⟩)
  · have t5 : T5__law_fraction [some (false, .lst (l.map D.int)), some (false, .int k), some (false, .int p'), some (false, .int (q + 1)), some (false, .int kd)] = .nx [some (false, .lst (l.map D.int)), some (false, .int k), some (false, .int p'), some (false, .int (q + 1)), some (false, .int kd)] := by
      unfold T5__law_fraction
      simp only [PM.tgT, PM.tgs, PM.callE, PM.runF, PM.initE, PM.seqS, PM.asgS, PM.tgS, PM.parS, PM.appS, PM.augS, PM.dropS, PM.retS, PM.retN, PM.retV, PM.ifS, PM.forS, PM.M.thenS, PM.M.bind, PM.M.lift, PM.ret, PM.cst, PM.var, PM.pvar, PM.pk, PM.bin, PM.asB, PM.truth, PM.tru, PM.tand, PM.tor, PM.tnot, PM.vand, PM.vor, PM.vnot, PM.iff, PM.sli, PM.ono, PM.oin, PM.acons, PM.anil, PM.cnil, PM.cval, PM.cvw, PM.lstE, PM.tupE, PM.blt, PM.isi, PM.una, PM.smE, PM.src, PM.rng1, PM.rng2, PM.skip, PM.brkS, PM.cntS, PM.tgN, PM.itemsD, PM.tyD, PM.Ty.sub, PM.addD, PM.addIA, PM.subD, PM.mulD, PM.mulID, PM.fdivD, PM.modD, PM.powD, PM.ltD, PM.leD, PM.gtD, PM.geD, PM.cmpD, PM.eqD, PM.neD, PM.ixD, PM.sliceD, PM.lenD, PM.intD, PM.strD, PM.listD, PM.tupD, PM.joinD, PM.rjustD, PM.negD, List.length_cons, List.length_nil, List.getElem?_cons_zero, List.getElem?_cons_succ, List.set_cons_zero, List.set_cons_succ, List.map_cons, List.map_nil, List.cons_append, List.nil_append, List.append_nil, List.replicate, List.length_map, List.length_append, if_true, if_false, ite_true, ite_false, reduceIte, Bool.false_eq_true, decide_eq_true_eq, Option.map_some, Option.map_none, Option.bind_some, Option.bind_none, Option.some.injEq, Option.join, List.isEmpty_cons, List.isEmpty_nil, List.all_cons, List.all_nil, PM.owned, PM.noLS, PM.noL, PM.noLs, Bool.or_true, Bool.true_or, Bool.or_false, Bool.false_or, Bool.and_true, Bool.true_and, Bool.and_false, Bool.false_and, Bool.not_true, Bool.not_false, List.isEmpty_map, PM.setS, PM.augIxS, PM.isD, PM.isNonD, PM.isBlD, PM.isNotD, PM.sumD, PM.allD, PM.anyD, PM.absD, PM.gcdD, PM.bitsD, PM.maxD, PM.minD, reduceCtorEq, decide_true, decide_false, eq_self, Nat.zero_add, Nat.reduceAdd, Nat.reduceSub, Nat.reduceLT, Nat.reduceEqDiff, Int.reduceAdd, Int.reduceSub, Int.reduceMul, Int.cast_ofNat_Int, Int.reduceBNe, Int.reduceBEq, Int.reduceNe, Nat.reduceBEq, PySem.sizeLine_eq, Nat.reduceLeDiff, Nat.reduceMul, Nat.reducePow, Int.reduceLE, Int.reduceLT, Int.reduceNeg, Int.reducePow, Int.reduceEq, and_self, and_true, true_and, eqv_int, decide_eq_false c4]
    rw [seq_nx t5]
    by_cases c5 : kd = 5
    · have t6 : T6__law_fraction [some (false, .lst (l.map D.int)), some (false, .int k), some (false, .int p'), some (false, .int (q + 1)), some (false, .int kd)] = .nx [some (false, .lst (l.map D.int)), some (false, .int k), some (false, .int p'), some (false, .int ((q + 1) * 1000000000000000000 + p')), some (false, .int kd)] := by
        unfold T6__law_fraction
        simp only [PM.tgT, PM.tgs, PM.callE, PM.runF, PM.initE, PM.seqS, PM.asgS, PM.tgS, PM.parS, PM.appS, PM.augS, PM.dropS, PM.retS, PM.retN, PM.retV, PM.ifS, PM.forS, PM.M.thenS, PM.M.bind, PM.M.lift, PM.ret, PM.cst, PM.var, PM.pvar, PM.pk, PM.bin, PM.asB, PM.truth, PM.tru, PM.tand, PM.tor, PM.tnot, PM.vand, PM.vor, PM.vnot, PM.iff, PM.sli, PM.ono, PM.oin, PM.acons, PM.anil, PM.cnil, PM.cval, PM.cvw, PM.lstE, PM.tupE, PM.blt, PM.isi, PM.una, PM.smE, PM.src, PM.rng1, PM.rng2, PM.skip, PM.brkS, PM.cntS, PM.tgN, PM.itemsD, PM.tyD, PM.Ty.sub, PM.addD, PM.addIA, PM.subD, PM.mulD, PM.mulID, PM.fdivD, PM.modD, PM.powD, PM.ltD, PM.leD, PM.gtD, PM.geD, PM.cmpD, PM.eqD, PM.neD, PM.ixD, PM.sliceD, PM.lenD, PM.intD, PM.strD, PM.listD, PM.tupD, PM.joinD, PM.rjustD, PM.negD, List.length_cons, List.length_nil, List.getElem?_cons_zero, List.getElem?_cons_succ, List.set_cons_zero, List.set_cons_succ, List.map_cons, List.map_nil, List.cons_append, List.nil_append, List.append_nil, List.replicate, List.length_map, List.length_append, if_true, if_false, ite_true, ite_false, reduceIte, Bool.false_eq_true, decide_eq_true_eq, Option.map_some, Option.map_none, Option.bind_some, Option.bind_none, Option.some.injEq, Option.join, List.isEmpty_cons, List.isEmpty_nil, List.all_cons, List.all_nil, PM.owned, PM.noLS, PM.noL, PM.noLs, Bool.or_true, Bool.true_or, Bool.or_false, Bool.false_or, Bool.and_true, Bool.true_and, Bool.and_false, Bool.false_and, Bool.not_true, Bool.not_false, List.isEmpty_map, PM.setS, PM.augIxS, PM.isD, PM.isNonD, PM.isBlD, PM.isNotD, PM.sumD, PM.allD, PM.anyD, PM.absD, PM.gcdD, PM.bitsD, PM.maxD, PM.minD, reduceCtorEq, decide_true, decide_false, eq_self, Nat.zero_add, Nat.reduceAdd, Nat.reduceSub, Nat.reduceLT, Nat.reduceEqDiff, Int.reduceAdd, Int.reduceSub, Int.reduceMul, Int.cast_ofNat_Int, Int.reduceBNe, Int.reduceBEq, Int.reduceNe, Nat.reduceBEq, PySem.sizeLine_eq, Nat.reduceLeDiff, Nat.reduceMul, Nat.reducePow, Int.reduceLE, Int.reduceLT, Int.reduceNeg, Int.reducePow, Int.reduceEq, and_self, and_true, true_and, eqv_int, decide_eq_true c5, Int.reduceToNat, h10, m3]
      rw [seq_nx t6]
      exact frac_tail nl p3 (by omega) (.inr ⟨by omega, by omega⟩)
    · have t6 : T6__law_fraction [some (false, .lst (l.map D.int)), some (false, .int k), some (false, .int p'), some (false, .int (q + 1)), some (false, .int kd)] = .nx [some (false, .lst (l.map D.int)), some (false, .int k), some (false, .int p'), some (false, .int (q + 1)), some (false, .int kd)] := by
        unfold T6__law_fraction
        simp only [PM.tgT, PM.tgs, PM.callE, PM.runF, PM.initE, PM.seqS, PM.asgS, PM.tgS, PM.parS, PM.appS, PM.augS, PM.dropS, PM.retS, PM.retN, PM.retV, PM.ifS, PM.forS, PM.M.thenS, PM.M.bind, PM.M.lift, PM.ret, PM.cst, PM.var, PM.pvar, PM.pk, PM.bin, PM.asB, PM.truth, PM.tru, PM.tand, PM.tor, PM.tnot, PM.vand, PM.vor, PM.vnot, PM.iff, PM.sli, PM.ono, PM.oin, PM.acons, PM.anil, PM.cnil, PM.cval, PM.cvw, PM.lstE, PM.tupE, PM.blt, PM.isi, PM.una, PM.smE, PM.src, PM.rng1, PM.rng2, PM.skip, PM.brkS, PM.cntS, PM.tgN, PM.itemsD, PM.tyD, PM.Ty.sub, PM.addD, PM.addIA, PM.subD, PM.mulD, PM.mulID, PM.fdivD, PM.modD, PM.powD, PM.ltD, PM.leD, PM.gtD, PM.geD, PM.cmpD, PM.eqD, PM.neD, PM.ixD, PM.sliceD, PM.lenD, PM.intD, PM.strD, PM.listD, PM.tupD, PM.joinD, PM.rjustD, PM.negD, List.length_cons, List.length_nil, List.getElem?_cons_zero, List.getElem?_cons_succ, List.set_cons_zero, List.set_cons_succ, List.map_cons, List.map_nil, List.cons_append, List.nil_append, List.append_nil, List.replicate, List.length_map, List.length_append, if_true, if_false, ite_true, ite_false, reduceIte, Bool.false_eq_true, decide_eq_true_eq, Option.map_some, Option.map_none, Option.bind_some, Option.bind_none, Option.some.injEq, Option.join, List.isEmpty_cons, List.isEmpty_nil, List.all_cons, List.all_nil, PM.owned, PM.noLS, PM.noL, PM.noLs, Bool.or_true, Bool.true_or, Bool.or_false, Bool.false_or, Bool.and_true, Bool.true_and, Bool.and_false, Bool.false_and, Bool.not_true, Bool.not_false, List.isEmpty_map, PM.setS, PM.augIxS, PM.isD, PM.isNonD, PM.isBlD, PM.isNotD, PM.sumD, PM.allD, PM.anyD, PM.absD, PM.gcdD, PM.bitsD, PM.maxD, PM.minD, reduceCtorEq, decide_true, decide_false, eq_self, Nat.zero_add, Nat.reduceAdd, Nat.reduceSub, Nat.reduceLT, Nat.reduceEqDiff, Int.reduceAdd, Int.reduceSub, Int.reduceMul, Int.cast_ofNat_Int, Int.reduceBNe, Int.reduceBEq, Int.reduceNe, Nat.reduceBEq, PySem.sizeLine_eq, Nat.reduceLeDiff, Nat.reduceMul, Nat.reducePow, Int.reduceLE, Int.reduceLT, Int.reduceNeg, Int.reducePow, Int.reduceEq, and_self, and_true, true_and, eqv_int, decide_eq_false c5]
      rw [seq_nx t6]
      exact frac_tail nl p3 (by omega) (.inl ⟨by omega, by omega⟩)
structure Dd (d : Rat) : Prop where
  b : bs d ≤ 162
  n : 0 ≤ d
  p : d.num.natAbs * d.den ≤ 2 ^ 162
structure Uu (u : Rat) : Prop where
  b : bs u ≤ 170
  q : u.den ≤ 2 ^ 136
theorem good_mk {u v d : Rat} (hu : Uu u) (hv : Few v) (hd : Dd d) : Good u v d := by
  refine ⟨hu.b, Nat.le_trans hv.b (by decide), hd.b, hd.n, ?_⟩
  have e : (v.num * v.num * d.num * (v.den * v.den * d.den) * u.den * u.den : Int).natAbs = (v.num.natAbs * v.den) * (v.num.natAbs * v.den) * (d.num.natAbs * d.den) * (u.den * u.den) := by
    simp only [Int.natAbs_mul, Int.natAbs_natCast]
    grind
  have h1 := mul_le (Nat.le_of_lt hv.p) (Nat.le_of_lt hv.p)
  have h2 := mul_le h1 hd.p
  have h3 := mul_le h2 (mul_le hu.q hu.q)
  rw [← e] at h3
  have h4 : (2 : Nat) ^ 81 * 2 ^ 81 * 2 ^ 162 * (2 ^ 136 * 2 ^ 136) < 2 ^ 320 * 2 ^ 320 := by decide
  have h5 : ((2 ^ 320 * 2 ^ 320 : Nat) : Int) = 2 ^ 320 * 2 ^ 320 := by decide
  generalize (v.num * v.num * d.num * (v.den * v.den * d.den) * u.den * u.den : Int) = S at *
  rw [← h5]
  generalize (2 : Nat) ^ 320 * 2 ^ 320 = X at *
  omega
theorem Few.uu {r : Rat} (h : Few r) : Uu r := ⟨Nat.le_trans h.b (by decide), Nat.le_trans (Nat.le_of_lt h.q) (by decide)⟩
def abR (r : Rat) : Rat := if r < 0 then -r else r
theorem abR_nn (r : Rat) : 0 ≤ abR r := by
  unfold abR
  split <;> grind
theorem Few.ab {r : Rat} (h : Few r) : Few (abR r) := by
  unfold abR
  split
  · exact ⟨by rw [bs_neg]; exact h.b, by rw [Rat.neg_num, Rat.neg_den, Int.natAbs_neg]; exact h.p, by rw [Rat.neg_den]; exact h.q⟩
  · exact h
theorem abR_W (r : Rat) : W (abR r) = .tup [.int (if r.num < 0 then -r.num else r.num), .int (r.den : Int)] := by
  unfold abR W T
  by_cases c : r < 0
  · rw [if_pos c, if_pos (rneg.mp c), Rat.neg_num, Rat.neg_den]
  · rw [if_neg c, if_neg (fun q => c (rneg.mpr q))]
theorem Few.dd {r : Rat} (h : Few r) (n : 0 ≤ r) : Dd r := ⟨Nat.le_trans h.b (by decide), n, Nat.le_trans (Nat.le_of_lt h.p) (by decide)⟩
theorem few_0 : Few 0 := ⟨by decide, by decide, by decide⟩
end LawW

namespace LawW
open PySem L2 PM
theorem lo_mul {r s : Rat} (h : bs r ≤ 1900) (k : bs s ≤ 1900) : M__law_lowest [.int (r.num * s.num), .int ((r.den : Int) * (s.den : Int))] = .ok (false, .tup [.int (r * s).num, .int ((r * s).den : Int)]) := by
  have e := lowest_ok (p := r.num * s.num) (mul_ne (den_ne r) (den_ne s)) (bA (r := r) (s := s) (by omega) (by omega))
  rw [lw_T (mul_ne (den_ne r) (den_ne s)) (mul_div r s)] at e
  exact e
theorem lo_add {r s : Rat} (h : bs r ≤ 1900) (k : bs s ≤ 1900) : M__law_lowest [.int (r.num * (s.den : Int) + s.num * (r.den : Int)), .int ((r.den : Int) * (s.den : Int))] = .ok (false, .tup [.int (r + s).num, .int ((r + s).den : Int)]) := by
  have e := lowest_ok (p := r.num * s.den + s.num * r.den) (mul_ne (den_ne r) (den_ne s)) (bA (r := r) (s := s) (by omega) (by omega))
  rw [lw_T (mul_ne (den_ne r) (den_ne s)) (add_div r s)] at e
  exact e
theorem mok {r s : Rat} (h : bs r ≤ 1900) (k : bs s ≤ 1900) : mulOk r.num s.num = true ∧ mulOk (r.den : Int) (s.den : Int) = true ∧ mulOk r.num (s.den : Int) = true ∧ mulOk s.num (r.den : Int) = true := by
  have a := bs_fr r
  have b := bs_fr s
  exact ⟨mul_nb a.a b.a (by omega), mul_nb a.b b.b (by omega), mul_nb a.a b.b (by omega), mul_nb b.a a.b (by omega)⟩
theorem negT (r : Rat) : (.tup [.int (-r.num), .int (r.den : Int)] : D) = W (-r) := by
  unfold W T
  rw [Rat.neg_num, Rat.neg_den]
theorem sq_mul {v d : Rat} (h : 0 ≤ d) : sq (v * d) = sq v * (d * d) := by
  unfold sq
  by_cases c : 0 ≤ v
  · rw [if_pos c, if_pos (Rat.mul_nonneg c h)]
    grind
  · rw [if_neg c]
    by_cases z : d = 0
    · subst z
      rw [Rat.mul_zero, if_pos Rat.le_refl]
      grind
    · have := Rat.mul_pos (a := -v) (b := d) (by grind) (by grind)
      rw [if_neg (by grind)]
      grind
theorem ss_exact {u v d : Rat} (h : 0 ≤ d) : SS (u - (u + v * d)) v (d * d) = 0 := by
  unfold SS
  have : sq (u - (u + v * d)) + sq v * (d * d) = 0 := by
    rw [show u - (u + v * d) = -(v * d) by grind, sq_neg, sq_mul h]
    grind
  rw [this]
  rfl
theorem num_div (r s : Rat) : (r * s).num.natAbs ≤ (r.num * s.num).natAbs ∧ (r * s).den ≤ r.den * s.den := by
  have := rat_le (p := r.num * s.num) (q := r.den * s.den) (r := r * s) (mul_ne (den_ne r) (den_ne s)) (by rw [← Rat.divInt_eq_div]; exact (mul_div r s).symm)
  rw [show ((r.den : Int) * s.den).natAbs = r.den * s.den by rw [Int.natAbs_mul]; rfl] at this
  exact this
theorem Few.sqr {d : Rat} (h : Few d) (n : 0 ≤ d) : Dd (d * d) := by
  have b := bs_mul d d
  have := h.b
  obtain ⟨n1, n2⟩ := num_div d d
  refine ⟨by omega, Rat.mul_nonneg n n, ?_⟩
  have h1 := mul_le n1 n2
  have h2 := mul_le (Nat.le_of_lt h.p) (Nat.le_of_lt h.p)
  have e : (d.num * d.num).natAbs * (d.den * d.den) = d.num.natAbs * d.den * (d.num.natAbs * d.den) := by
    rw [Int.natAbs_mul]
    grind
  rw [e] at h1
  omega
theorem uu_neg {v d : Rat} (hv : Few v) (hd : Few d) : Uu (-(v * d)) := by
  have b := bs_mul v d
  have := hv.b
  have := hd.b
  obtain ⟨n1, n2⟩ := num_div v d
  have h2 := mul_le (Nat.le_of_lt hv.q) (Nat.le_of_lt hd.q)
  exact ⟨by rw [bs_neg]; omega, by rw [Rat.neg_den]; omega⟩
theorem uu_sub {v d : Rat} (hv : Few v) (hd : Few d) {j : Int} (hj : nb 6 j) : Uu ((j : Rat) - v * d) := by
  have b := bs_mul v d
  have := hv.b
  have := hd.b
  have bj := bs_int (n := 5) hj
  have b2 := bs_sub (j : Rat) (v * d)
  obtain ⟨n1, n2⟩ := num_div v d
  have h2 := mul_le (Nat.le_of_lt hv.q) (Nat.le_of_lt hd.q)
  refine ⟨by omega, ?_⟩
  have := rat_le (p := (j : Rat).num * (v * d).den - (v * d).num * (j : Rat).den) (q := (j : Rat).den * (v * d).den) (r := (j : Rat) - v * d) (mul_ne (den_ne _) (den_ne _)) (by rw [← Rat.divInt_eq_div]; exact (sub_div _ _).symm)
  rw [show (((j : Rat).den : Int) * (v * d).den).natAbs = (j : Rat).den * (v * d).den by rw [Int.natAbs_mul]; rfl, show (j : Rat).den = 1 from rfl, Nat.one_mul] at this
  omega
theorem ifT {C : M Bool} {A B : SM} {ρ ρ1 : PM.Env} (h : C ρ = .ok true ρ1) : ifS C A B ρ = A ρ1 := by
  unfold ifS M.thenS
  rw [h]
  rfl
theorem ifF {C : M Bool} {A B : SM} {ρ ρ1 : PM.Env} (h : C ρ = .ok false ρ1) : ifS C A B ρ = B ρ1 := by
  unfold ifS M.thenS
  rw [h]
  rfl
theorem ways_ok {l : List Int} (N : Nums 10 l) {u v d : Rat} (fu : Few u) (fv : Few v) (fd : Few d) (dn : 0 ≤ d) (w : Int) (s0 s1 s10 s11 s12 s13 : Option Slot) :
    ∃ u' d' s7 s8 s9, Uu u' ∧ Dd d' ∧ T8_law [s0, s1, some (true, .lst (l.map D.int)), some (false, W u), some (false, W v), some (false, W d), some (false, .int w), none, none, none, s10, s11, s12, s13] = .nx [s0, s1, some (true, .lst (l.map D.int)), some (false, W u'), some (false, W v), some (false, W d'), some (false, .int w), s7, s8, s9, s10, s11, s12, s13] := by
  have nl := nlst l
  by_cases c : w < 3
  · have bu := fu.b
    have bv := fv.b
    have bd := fd.b
    have be := bs_mul v d
    have hd' := fd.sqr dn
    obtain ⟨m1, m2, m3, m4⟩ := mok (r := d) (s := d) (by omega) (by omega)
    obtain ⟨j1, j2, j3, j4⟩ := mok (r := v) (s := d) (by omega) (by omega)
    have l1 := lo_mul (r := d) (s := d) (by omega) (by omega)
    have l2 := lo_mul (r := v) (s := d) (by omega) (by omega)
    obtain ⟨a5, e5, a50, a51⟩ := N.at (i := 5) (by decide) (by decide)
    have p5 := pick_ok e5 (m := 40) (by decide) (by decide)
    have hj : nb 6 (a5 % 40 - 20) := by unfold nb; omega
    have bj := bs_int (n := 5) hj
    have ls : M__law_less [.tup [.int (a5 % 40 - 20), .int 1], .tup [.int (v * d).num, .int ((v * d).den : Int)]] = .ok (false, W (((a5 % 40 - 20 : Int) : Rat) - v * d)) := l_lessW (r := ((a5 % 40 - 20 : Int) : Rat)) (s := v * d) (by omega) (by omega)
    have st : ∃ u', Uu u' ∧ (ifS (asB (bin eqD (pvar 6) (pk (cst (.int 1))))) (asgS 3 (tupE (acons (pk (una negD (pk (bin ixD (pvar 8) (pk (cst (.int 0))))))) (acons (pk (bin ixD (pvar 8) (pk (cst (.int 1))))) anil)))) skip [s0, s1, some (true, .lst (l.map D.int)), some (false, W u), some (false, W v), some (false, W (d * d)), some (false, .int w), some (false, W d), some (false, W (v * d)), none, s10, s11, s12, s13] = .nx [s0, s1, some (true, .lst (l.map D.int)), some (false, W u'), some (false, W v), some (false, W (d * d)), some (false, .int w), some (false, W d), some (false, W (v * d)), none, s10, s11, s12, s13]) := by
      by_cases q : w = 1
      · refine ⟨_, uu_neg fv fd, ?_⟩
        rw [← negT]
        unfold W T
        simp only [PM.tgT, PM.tgs, PM.callE, PM.runF, PM.initE, PM.seqS, PM.asgS, PM.tgS, PM.parS, PM.appS, PM.augS, PM.dropS, PM.retS, PM.retN, PM.retV, PM.ifS, PM.forS, PM.M.thenS, PM.M.bind, PM.M.lift, PM.ret, PM.cst, PM.var, PM.pvar, PM.pk, PM.bin, PM.asB, PM.truth, PM.tru, PM.tand, PM.tor, PM.tnot, PM.vand, PM.vor, PM.vnot, PM.iff, PM.sli, PM.ono, PM.oin, PM.acons, PM.anil, PM.cnil, PM.cval, PM.cvw, PM.lstE, PM.tupE, PM.blt, PM.isi, PM.una, PM.smE, PM.src, PM.rng1, PM.rng2, PM.skip, PM.brkS, PM.cntS, PM.tgN, PM.itemsD, PM.tyD, PM.Ty.sub, PM.addD, PM.addIA, PM.subD, PM.mulD, PM.mulID, PM.fdivD, PM.modD, PM.powD, PM.ltD, PM.leD, PM.gtD, PM.geD, PM.cmpD, PM.eqD, PM.neD, PM.ixD, PM.sliceD, PM.lenD, PM.intD, PM.strD, PM.listD, PM.tupD, PM.joinD, PM.rjustD, PM.negD, List.length_cons, List.length_nil, List.getElem?_cons_zero, List.getElem?_cons_succ, List.set_cons_zero, List.set_cons_succ, List.map_cons, List.map_nil, List.cons_append, List.nil_append, List.append_nil, List.replicate, List.length_map, List.length_append, if_true, if_false, ite_true, ite_false, reduceIte, Bool.false_eq_true, decide_eq_true_eq, Option.map_some, Option.map_none, Option.bind_some, Option.bind_none, Option.some.injEq, Option.join, List.isEmpty_cons, List.isEmpty_nil, List.all_cons, List.all_nil, PM.owned, PM.noLS, PM.noL, PM.noLs, Bool.or_true, Bool.true_or, Bool.or_false, Bool.false_or, Bool.and_true, Bool.true_and, Bool.and_false, Bool.false_and, Bool.not_true, Bool.not_false, List.isEmpty_map, PM.setS, PM.augIxS, PM.isD, PM.isNonD, PM.isBlD, PM.isNotD, PM.sumD, PM.allD, PM.anyD, PM.absD, PM.gcdD, PM.bitsD, PM.maxD, PM.minD, reduceCtorEq, decide_true, decide_false, eq_self, Nat.zero_add, Nat.reduceAdd, Nat.reduceSub, Nat.reduceLT, Nat.reduceEqDiff, Int.reduceAdd, Int.reduceSub, Int.reduceMul, Int.cast_ofNat_Int, Int.reduceBNe, Int.reduceBEq, Int.reduceNe, Nat.reduceBEq, PySem.sizeLine_eq, Nat.reduceLeDiff, Nat.reduceMul, Nat.reducePow, Int.reduceLE, Int.reduceLT, Int.reduceNeg, Int.reducePow, Int.reduceEq, and_self, and_true, true_and, PM.lcE, PM.compF, PM.yes, PM.wipeE, PM.restE, PM.clean, PM.forF, PM.blsD, decide_eq_true_eq, List.all_cons, List.all_nil, id_eq, PM.cut, HT.sIx, L2.atI, L2.ixN, Int.reduceToNat, Nat.min_def, List.drop_succ_cons, List.drop_zero, List.drop_nil, List.take_nil, Nat.reduceSub, List.take_succ_cons, List.take_zero, Option.bind_some, Option.bind_none, and_false, false_and, Nat.reduceLT, PM.revD, PM.rev0D, List.reverse_cons, List.reverse_nil, eqv_int, decide_eq_true q]
      · refine ⟨u, fu.uu, ?_⟩
        simp only [PM.tgT, PM.tgs, PM.callE, PM.runF, PM.initE, PM.seqS, PM.asgS, PM.tgS, PM.parS, PM.appS, PM.augS, PM.dropS, PM.retS, PM.retN, PM.retV, PM.ifS, PM.forS, PM.M.thenS, PM.M.bind, PM.M.lift, PM.ret, PM.cst, PM.var, PM.pvar, PM.pk, PM.bin, PM.asB, PM.truth, PM.tru, PM.tand, PM.tor, PM.tnot, PM.vand, PM.vor, PM.vnot, PM.iff, PM.sli, PM.ono, PM.oin, PM.acons, PM.anil, PM.cnil, PM.cval, PM.cvw, PM.lstE, PM.tupE, PM.blt, PM.isi, PM.una, PM.smE, PM.src, PM.rng1, PM.rng2, PM.skip, PM.brkS, PM.cntS, PM.tgN, PM.itemsD, PM.tyD, PM.Ty.sub, PM.addD, PM.addIA, PM.subD, PM.mulD, PM.mulID, PM.fdivD, PM.modD, PM.powD, PM.ltD, PM.leD, PM.gtD, PM.geD, PM.cmpD, PM.eqD, PM.neD, PM.ixD, PM.sliceD, PM.lenD, PM.intD, PM.strD, PM.listD, PM.tupD, PM.joinD, PM.rjustD, PM.negD, List.length_cons, List.length_nil, List.getElem?_cons_zero, List.getElem?_cons_succ, List.set_cons_zero, List.set_cons_succ, List.map_cons, List.map_nil, List.cons_append, List.nil_append, List.append_nil, List.replicate, List.length_map, List.length_append, if_true, if_false, ite_true, ite_false, reduceIte, Bool.false_eq_true, decide_eq_true_eq, Option.map_some, Option.map_none, Option.bind_some, Option.bind_none, Option.some.injEq, Option.join, List.isEmpty_cons, List.isEmpty_nil, List.all_cons, List.all_nil, PM.owned, PM.noLS, PM.noL, PM.noLs, Bool.or_true, Bool.true_or, Bool.or_false, Bool.false_or, Bool.and_true, Bool.true_and, Bool.and_false, Bool.false_and, Bool.not_true, Bool.not_false, List.isEmpty_map, PM.setS, PM.augIxS, PM.isD, PM.isNonD, PM.isBlD, PM.isNotD, PM.sumD, PM.allD, PM.anyD, PM.absD, PM.gcdD, PM.bitsD, PM.maxD, PM.minD, reduceCtorEq, decide_true, decide_false, eq_self, Nat.zero_add, Nat.reduceAdd, Nat.reduceSub, Nat.reduceLT, Nat.reduceEqDiff, Int.reduceAdd, Int.reduceSub, Int.reduceMul, Int.cast_ofNat_Int, Int.reduceBNe, Int.reduceBEq, Int.reduceNe, Nat.reduceBEq, PySem.sizeLine_eq, Nat.reduceLeDiff, Nat.reduceMul, Nat.reducePow, Int.reduceLE, Int.reduceLT, Int.reduceNeg, Int.reducePow, Int.reduceEq, and_self, and_true, true_and, PM.lcE, PM.compF, PM.yes, PM.wipeE, PM.restE, PM.clean, PM.forF, PM.blsD, decide_eq_true_eq, List.all_cons, List.all_nil, id_eq, PM.cut, HT.sIx, L2.atI, L2.ixN, Int.reduceToNat, Nat.min_def, List.drop_succ_cons, List.drop_zero, List.drop_nil, List.take_nil, Nat.reduceSub, List.take_succ_cons, List.take_zero, Option.bind_some, Option.bind_none, and_false, false_and, Nat.reduceLT, PM.revD, PM.rev0D, List.reverse_cons, List.reverse_nil, eqv_int, decide_eq_false q]
    obtain ⟨u1, hu1, st⟩ := st
    have st2 : ∃ u', Uu u' ∧ (ifS (asB (bin eqD (pvar 6) (pk (cst (.int 2))))) (asgS 3 (callE M__law_less (cval (pk (tupE (acons (pk (bin subD (pk (callE M__law_pick (cvw 2 (cval (pk (cst (.int 5))) (cval (pk (cst (.int 40))) cnil))))) (pk (cst (.int 20))))) (acons (pk (cst (.int 1))) anil)))) (cvw 8 cnil)))) skip [s0, s1, some (true, .lst (l.map D.int)), some (false, W u1), some (false, W v), some (false, W (d * d)), some (false, .int w), some (false, W d), some (false, W (v * d)), none, s10, s11, s12, s13] = .nx [s0, s1, some (true, .lst (l.map D.int)), some (false, W u'), some (false, W v), some (false, W (d * d)), some (false, .int w), some (false, W d), some (false, W (v * d)), none, s10, s11, s12, s13]) := by
      by_cases q : w = 2
      · refine ⟨_, uu_sub fv fd hj, ?_⟩
        have ls : M__law_less [.tup [.int (a5 % 40 - 20), .int 1], W (v * d)] = .ok (false, W (((a5 % 40 - 20 : Int) : Rat) - v * d)) := ls
        simp only [PM.tgT, PM.tgs, PM.callE, PM.runF, PM.initE, PM.seqS, PM.asgS, PM.tgS, PM.parS, PM.appS, PM.augS, PM.dropS, PM.retS, PM.retN, PM.retV, PM.ifS, PM.forS, PM.M.thenS, PM.M.bind, PM.M.lift, PM.ret, PM.cst, PM.var, PM.pvar, PM.pk, PM.bin, PM.asB, PM.truth, PM.tru, PM.tand, PM.tor, PM.tnot, PM.vand, PM.vor, PM.vnot, PM.iff, PM.sli, PM.ono, PM.oin, PM.acons, PM.anil, PM.cnil, PM.cval, PM.cvw, PM.lstE, PM.tupE, PM.blt, PM.isi, PM.una, PM.smE, PM.src, PM.rng1, PM.rng2, PM.skip, PM.brkS, PM.cntS, PM.tgN, PM.itemsD, PM.tyD, PM.Ty.sub, PM.addD, PM.addIA, PM.subD, PM.mulD, PM.mulID, PM.fdivD, PM.modD, PM.powD, PM.ltD, PM.leD, PM.gtD, PM.geD, PM.cmpD, PM.eqD, PM.neD, PM.ixD, PM.sliceD, PM.lenD, PM.intD, PM.strD, PM.listD, PM.tupD, PM.joinD, PM.rjustD, PM.negD, List.length_cons, List.length_nil, List.getElem?_cons_zero, List.getElem?_cons_succ, List.set_cons_zero, List.set_cons_succ, List.map_cons, List.map_nil, List.cons_append, List.nil_append, List.append_nil, List.replicate, List.length_map, List.length_append, if_true, if_false, ite_true, ite_false, reduceIte, Bool.false_eq_true, decide_eq_true_eq, Option.map_some, Option.map_none, Option.bind_some, Option.bind_none, Option.some.injEq, Option.join, List.isEmpty_cons, List.isEmpty_nil, List.all_cons, List.all_nil, PM.owned, PM.noLS, PM.noL, PM.noLs, Bool.or_true, Bool.true_or, Bool.or_false, Bool.false_or, Bool.and_true, Bool.true_and, Bool.and_false, Bool.false_and, Bool.not_true, Bool.not_false, List.isEmpty_map, PM.setS, PM.augIxS, PM.isD, PM.isNonD, PM.isBlD, PM.isNotD, PM.sumD, PM.allD, PM.anyD, PM.absD, PM.gcdD, PM.bitsD, PM.maxD, PM.minD, reduceCtorEq, decide_true, decide_false, eq_self, Nat.zero_add, Nat.reduceAdd, Nat.reduceSub, Nat.reduceLT, Nat.reduceEqDiff, Int.reduceAdd, Int.reduceSub, Int.reduceMul, Int.cast_ofNat_Int, Int.reduceBNe, Int.reduceBEq, Int.reduceNe, Nat.reduceBEq, PySem.sizeLine_eq, Nat.reduceLeDiff, Nat.reduceMul, Nat.reducePow, Int.reduceLE, Int.reduceLT, Int.reduceNeg, Int.reducePow, Int.reduceEq, and_self, and_true, true_and, PM.lcE, PM.compF, PM.yes, PM.wipeE, PM.restE, PM.clean, PM.forF, PM.blsD, decide_eq_true_eq, List.all_cons, List.all_nil, id_eq, PM.cut, HT.sIx, L2.atI, L2.ixN, Int.reduceToNat, Nat.min_def, List.drop_succ_cons, List.drop_zero, List.drop_nil, List.take_nil, Nat.reduceSub, List.take_succ_cons, List.take_zero, Option.bind_some, Option.bind_none, and_false, false_and, Nat.reduceLT, PM.revD, PM.rev0D, List.reverse_cons, List.reverse_nil, eqv_int, decide_eq_true q, p5, nl, noW, ls]
      · refine ⟨u1, hu1, ?_⟩
        simp only [PM.tgT, PM.tgs, PM.callE, PM.runF, PM.initE, PM.seqS, PM.asgS, PM.tgS, PM.parS, PM.appS, PM.augS, PM.dropS, PM.retS, PM.retN, PM.retV, PM.ifS, PM.forS, PM.M.thenS, PM.M.bind, PM.M.lift, PM.ret, PM.cst, PM.var, PM.pvar, PM.pk, PM.bin, PM.asB, PM.truth, PM.tru, PM.tand, PM.tor, PM.tnot, PM.vand, PM.vor, PM.vnot, PM.iff, PM.sli, PM.ono, PM.oin, PM.acons, PM.anil, PM.cnil, PM.cval, PM.cvw, PM.lstE, PM.tupE, PM.blt, PM.isi, PM.una, PM.smE, PM.src, PM.rng1, PM.rng2, PM.skip, PM.brkS, PM.cntS, PM.tgN, PM.itemsD, PM.tyD, PM.Ty.sub, PM.addD, PM.addIA, PM.subD, PM.mulD, PM.mulID, PM.fdivD, PM.modD, PM.powD, PM.ltD, PM.leD, PM.gtD, PM.geD, PM.cmpD, PM.eqD, PM.neD, PM.ixD, PM.sliceD, PM.lenD, PM.intD, PM.strD, PM.listD, PM.tupD, PM.joinD, PM.rjustD, PM.negD, List.length_cons, List.length_nil, List.getElem?_cons_zero, List.getElem?_cons_succ, List.set_cons_zero, List.set_cons_succ, List.map_cons, List.map_nil, List.cons_append, List.nil_append, List.append_nil, List.replicate, List.length_map, List.length_append, if_true, if_false, ite_true, ite_false, reduceIte, Bool.false_eq_true, decide_eq_true_eq, Option.map_some, Option.map_none, Option.bind_some, Option.bind_none, Option.some.injEq, Option.join, List.isEmpty_cons, List.isEmpty_nil, List.all_cons, List.all_nil, PM.owned, PM.noLS, PM.noL, PM.noLs, Bool.or_true, Bool.true_or, Bool.or_false, Bool.false_or, Bool.and_true, Bool.true_and, Bool.and_false, Bool.false_and, Bool.not_true, Bool.not_false, List.isEmpty_map, PM.setS, PM.augIxS, PM.isD, PM.isNonD, PM.isBlD, PM.isNotD, PM.sumD, PM.allD, PM.anyD, PM.absD, PM.gcdD, PM.bitsD, PM.maxD, PM.minD, reduceCtorEq, decide_true, decide_false, eq_self, Nat.zero_add, Nat.reduceAdd, Nat.reduceSub, Nat.reduceLT, Nat.reduceEqDiff, Int.reduceAdd, Int.reduceSub, Int.reduceMul, Int.cast_ofNat_Int, Int.reduceBNe, Int.reduceBEq, Int.reduceNe, Nat.reduceBEq, PySem.sizeLine_eq, Nat.reduceLeDiff, Nat.reduceMul, Nat.reducePow, Int.reduceLE, Int.reduceLT, Int.reduceNeg, Int.reducePow, Int.reduceEq, and_self, and_true, true_and, PM.lcE, PM.compF, PM.yes, PM.wipeE, PM.restE, PM.clean, PM.forF, PM.blsD, decide_eq_true_eq, List.all_cons, List.all_nil, id_eq, PM.cut, HT.sIx, L2.atI, L2.ixN, Int.reduceToNat, Nat.min_def, List.drop_succ_cons, List.drop_zero, List.drop_nil, List.take_nil, Nat.reduceSub, List.take_succ_cons, List.take_zero, Option.bind_some, Option.bind_none, and_false, false_and, Nat.reduceLT, PM.revD, PM.rev0D, List.reverse_cons, List.reverse_nil, eqv_int, decide_eq_false q]
    obtain ⟨u2, hu2, st2⟩ := st2
    have bu2 := hu2.b
    obtain ⟨i1, i2, i3, i4⟩ := mok (r := u2) (s := v * d) (by omega) (by omega)
    have l3 := lo_add (r := u2) (s := v * d) (by omega) (by omega)
    have b4 := bs_add u2 (v * d)
    obtain ⟨cp, cs⟩ := compared_ok (r := u2 + v * d) (good_mk hu2 fv hd') (by omega)
    rw [ss_exact dn] at cs
    refine ⟨u2, d * d, some (false, W d), some (false, W (v * d)), some (false, W (u2 + v * d)), hu2, hd', ?_⟩
    unfold T8_law
    have hc : asB (bin ltD (pvar 6) (pk (cst (.int 3)))) [s0, s1, some (true, .lst (l.map D.int)), some (false, W u), some (false, W v), some (false, W d), some (false, .int w), none, none, none, s10, s11, s12, s13] = .ok true [s0, s1, some (true, .lst (l.map D.int)), some (false, W u), some (false, W v), some (false, W d), some (false, .int w), none, none, none, s10, s11, s12, s13] := by
      simp only [PM.tgT, PM.tgs, PM.callE, PM.runF, PM.initE, PM.seqS, PM.asgS, PM.tgS, PM.parS, PM.appS, PM.augS, PM.dropS, PM.retS, PM.retN, PM.retV, PM.ifS, PM.forS, PM.M.thenS, PM.M.bind, PM.M.lift, PM.ret, PM.cst, PM.var, PM.pvar, PM.pk, PM.bin, PM.asB, PM.truth, PM.tru, PM.tand, PM.tor, PM.tnot, PM.vand, PM.vor, PM.vnot, PM.iff, PM.sli, PM.ono, PM.oin, PM.acons, PM.anil, PM.cnil, PM.cval, PM.cvw, PM.lstE, PM.tupE, PM.blt, PM.isi, PM.una, PM.smE, PM.src, PM.rng1, PM.rng2, PM.skip, PM.brkS, PM.cntS, PM.tgN, PM.itemsD, PM.tyD, PM.Ty.sub, PM.addD, PM.addIA, PM.subD, PM.mulD, PM.mulID, PM.fdivD, PM.modD, PM.powD, PM.ltD, PM.leD, PM.gtD, PM.geD, PM.cmpD, PM.eqD, PM.neD, PM.ixD, PM.sliceD, PM.lenD, PM.intD, PM.strD, PM.listD, PM.tupD, PM.joinD, PM.rjustD, PM.negD, List.length_cons, List.length_nil, List.getElem?_cons_zero, List.getElem?_cons_succ, List.set_cons_zero, List.set_cons_succ, List.map_cons, List.map_nil, List.cons_append, List.nil_append, List.append_nil, List.replicate, List.length_map, List.length_append, if_true, if_false, ite_true, ite_false, reduceIte, Bool.false_eq_true, decide_eq_true_eq, Option.map_some, Option.map_none, Option.bind_some, Option.bind_none, Option.some.injEq, Option.join, List.isEmpty_cons, List.isEmpty_nil, List.all_cons, List.all_nil, PM.owned, PM.noLS, PM.noL, PM.noLs, Bool.or_true, Bool.true_or, Bool.or_false, Bool.false_or, Bool.and_true, Bool.true_and, Bool.and_false, Bool.false_and, Bool.not_true, Bool.not_false, List.isEmpty_map, PM.setS, PM.augIxS, PM.isD, PM.isNonD, PM.isBlD, PM.isNotD, PM.sumD, PM.allD, PM.anyD, PM.absD, PM.gcdD, PM.bitsD, PM.maxD, PM.minD, reduceCtorEq, decide_true, decide_false, eq_self, Nat.zero_add, Nat.reduceAdd, Nat.reduceSub, Nat.reduceLT, Nat.reduceEqDiff, Int.reduceAdd, Int.reduceSub, Int.reduceMul, Int.cast_ofNat_Int, Int.reduceBNe, Int.reduceBEq, Int.reduceNe, Nat.reduceBEq, PySem.sizeLine_eq, Nat.reduceLeDiff, Nat.reduceMul, Nat.reducePow, Int.reduceLE, Int.reduceLT, Int.reduceNeg, Int.reducePow, Int.reduceEq, and_self, and_true, true_and, decide_eq_true c]
    rw [ifT hc]
    rw [seq_nx (ρ1 := [s0, s1, some (true, .lst (l.map D.int)), some (false, W u), some (false, W v), some (false, W d), some (false, .int w), some (false, W d), none, none, s10, s11, s12, s13]) (by simp only [PM.tgT, PM.tgs, PM.callE, PM.runF, PM.initE, PM.seqS, PM.asgS, PM.tgS, PM.parS, PM.appS, PM.augS, PM.dropS, PM.retS, PM.retN, PM.retV, PM.ifS, PM.forS, PM.M.thenS, PM.M.bind, PM.M.lift, PM.ret, PM.cst, PM.var, PM.pvar, PM.pk, PM.bin, PM.asB, PM.truth, PM.tru, PM.tand, PM.tor, PM.tnot, PM.vand, PM.vor, PM.vnot, PM.iff, PM.sli, PM.ono, PM.oin, PM.acons, PM.anil, PM.cnil, PM.cval, PM.cvw, PM.lstE, PM.tupE, PM.blt, PM.isi, PM.una, PM.smE, PM.src, PM.rng1, PM.rng2, PM.skip, PM.brkS, PM.cntS, PM.tgN, PM.itemsD, PM.tyD, PM.Ty.sub, PM.addD, PM.addIA, PM.subD, PM.mulD, PM.mulID, PM.fdivD, PM.modD, PM.powD, PM.ltD, PM.leD, PM.gtD, PM.geD, PM.cmpD, PM.eqD, PM.neD, PM.ixD, PM.sliceD, PM.lenD, PM.intD, PM.strD, PM.listD, PM.tupD, PM.joinD, PM.rjustD, PM.negD, List.length_cons, List.length_nil, List.getElem?_cons_zero, List.getElem?_cons_succ, List.set_cons_zero, List.set_cons_succ, List.map_cons, List.map_nil, List.cons_append, List.nil_append, List.append_nil, List.replicate, List.length_map, List.length_append, if_true, if_false, ite_true, ite_false, reduceIte, Bool.false_eq_true, decide_eq_true_eq, Option.map_some, Option.map_none, Option.bind_some, Option.bind_none, Option.some.injEq, Option.join, List.isEmpty_cons, List.isEmpty_nil, List.all_cons, List.all_nil, PM.owned, PM.noLS, PM.noL, PM.noLs, Bool.or_true, Bool.true_or, Bool.or_false, Bool.false_or, Bool.and_true, Bool.true_and, Bool.and_false, Bool.false_and, Bool.not_true, Bool.not_false, List.isEmpty_map, PM.setS, PM.augIxS, PM.isD, PM.isNonD, PM.isBlD, PM.isNotD, PM.sumD, PM.allD, PM.anyD, PM.absD, PM.gcdD, PM.bitsD, PM.maxD, PM.minD, reduceCtorEq, decide_true, decide_false, eq_self, Nat.zero_add, Nat.reduceAdd, Nat.reduceSub, Nat.reduceLT, Nat.reduceEqDiff, Int.reduceAdd, Int.reduceSub, Int.reduceMul, Int.cast_ofNat_Int, Int.reduceBNe, Int.reduceBEq, Int.reduceNe, Nat.reduceBEq, PySem.sizeLine_eq, Nat.reduceLeDiff, Nat.reduceMul, Nat.reducePow, Int.reduceLE, Int.reduceLT, Int.reduceNeg, Int.reducePow, Int.reduceEq, and_self, and_true, true_and, noW])]
    rw [seq_nx (ρ1 := [s0, s1, some (true, .lst (l.map D.int)), some (false, W u), some (false, W v), some (false, W (d * d)), some (false, .int w), some (false, W d), none, none, s10, s11, s12, s13]) (by
      unfold W T
      simp only [PM.tgT, PM.tgs, PM.callE, PM.runF, PM.initE, PM.seqS, PM.asgS, PM.tgS, PM.parS, PM.appS, PM.augS, PM.dropS, PM.retS, PM.retN, PM.retV, PM.ifS, PM.forS, PM.M.thenS, PM.M.bind, PM.M.lift, PM.ret, PM.cst, PM.var, PM.pvar, PM.pk, PM.bin, PM.asB, PM.truth, PM.tru, PM.tand, PM.tor, PM.tnot, PM.vand, PM.vor, PM.vnot, PM.iff, PM.sli, PM.ono, PM.oin, PM.acons, PM.anil, PM.cnil, PM.cval, PM.cvw, PM.lstE, PM.tupE, PM.blt, PM.isi, PM.una, PM.smE, PM.src, PM.rng1, PM.rng2, PM.skip, PM.brkS, PM.cntS, PM.tgN, PM.itemsD, PM.tyD, PM.Ty.sub, PM.addD, PM.addIA, PM.subD, PM.mulD, PM.mulID, PM.fdivD, PM.modD, PM.powD, PM.ltD, PM.leD, PM.gtD, PM.geD, PM.cmpD, PM.eqD, PM.neD, PM.ixD, PM.sliceD, PM.lenD, PM.intD, PM.strD, PM.listD, PM.tupD, PM.joinD, PM.rjustD, PM.negD, List.length_cons, List.length_nil, List.getElem?_cons_zero, List.getElem?_cons_succ, List.set_cons_zero, List.set_cons_succ, List.map_cons, List.map_nil, List.cons_append, List.nil_append, List.append_nil, List.replicate, List.length_map, List.length_append, if_true, if_false, ite_true, ite_false, reduceIte, Bool.false_eq_true, decide_eq_true_eq, Option.map_some, Option.map_none, Option.bind_some, Option.bind_none, Option.some.injEq, Option.join, List.isEmpty_cons, List.isEmpty_nil, List.all_cons, List.all_nil, PM.owned, PM.noLS, PM.noL, PM.noLs, Bool.or_true, Bool.true_or, Bool.or_false, Bool.false_or, Bool.and_true, Bool.true_and, Bool.and_false, Bool.false_and, Bool.not_true, Bool.not_false, List.isEmpty_map, PM.setS, PM.augIxS, PM.isD, PM.isNonD, PM.isBlD, PM.isNotD, PM.sumD, PM.allD, PM.anyD, PM.absD, PM.gcdD, PM.bitsD, PM.maxD, PM.minD, reduceCtorEq, decide_true, decide_false, eq_self, Nat.zero_add, Nat.reduceAdd, Nat.reduceSub, Nat.reduceLT, Nat.reduceEqDiff, Int.reduceAdd, Int.reduceSub, Int.reduceMul, Int.cast_ofNat_Int, Int.reduceBNe, Int.reduceBEq, Int.reduceNe, Nat.reduceBEq, PySem.sizeLine_eq, Nat.reduceLeDiff, Nat.reduceMul, Nat.reducePow, Int.reduceLE, Int.reduceLT, Int.reduceNeg, Int.reducePow, Int.reduceEq, and_self, and_true, true_and, PM.lcE, PM.compF, PM.yes, PM.wipeE, PM.restE, PM.clean, PM.forF, PM.blsD, decide_eq_true_eq, List.all_cons, List.all_nil, id_eq, PM.cut, HT.sIx, L2.atI, L2.ixN, Int.reduceToNat, Nat.min_def, List.drop_succ_cons, List.drop_zero, List.drop_nil, List.take_nil, Nat.reduceSub, List.take_succ_cons, List.take_zero, Option.bind_some, Option.bind_none, and_false, false_and, Nat.reduceLT, PM.revD, PM.rev0D, List.reverse_cons, List.reverse_nil, m1, m2, l1])]
    rw [seq_nx (ρ1 := [s0, s1, some (true, .lst (l.map D.int)), some (false, W u), some (false, W v), some (false, W (d * d)), some (false, .int w), some (false, W d), some (false, W (v * d)), none, s10, s11, s12, s13]) (by
      unfold W T
      simp only [PM.tgT, PM.tgs, PM.callE, PM.runF, PM.initE, PM.seqS, PM.asgS, PM.tgS, PM.parS, PM.appS, PM.augS, PM.dropS, PM.retS, PM.retN, PM.retV, PM.ifS, PM.forS, PM.M.thenS, PM.M.bind, PM.M.lift, PM.ret, PM.cst, PM.var, PM.pvar, PM.pk, PM.bin, PM.asB, PM.truth, PM.tru, PM.tand, PM.tor, PM.tnot, PM.vand, PM.vor, PM.vnot, PM.iff, PM.sli, PM.ono, PM.oin, PM.acons, PM.anil, PM.cnil, PM.cval, PM.cvw, PM.lstE, PM.tupE, PM.blt, PM.isi, PM.una, PM.smE, PM.src, PM.rng1, PM.rng2, PM.skip, PM.brkS, PM.cntS, PM.tgN, PM.itemsD, PM.tyD, PM.Ty.sub, PM.addD, PM.addIA, PM.subD, PM.mulD, PM.mulID, PM.fdivD, PM.modD, PM.powD, PM.ltD, PM.leD, PM.gtD, PM.geD, PM.cmpD, PM.eqD, PM.neD, PM.ixD, PM.sliceD, PM.lenD, PM.intD, PM.strD, PM.listD, PM.tupD, PM.joinD, PM.rjustD, PM.negD, List.length_cons, List.length_nil, List.getElem?_cons_zero, List.getElem?_cons_succ, List.set_cons_zero, List.set_cons_succ, List.map_cons, List.map_nil, List.cons_append, List.nil_append, List.append_nil, List.replicate, List.length_map, List.length_append, if_true, if_false, ite_true, ite_false, reduceIte, Bool.false_eq_true, decide_eq_true_eq, Option.map_some, Option.map_none, Option.bind_some, Option.bind_none, Option.some.injEq, Option.join, List.isEmpty_cons, List.isEmpty_nil, List.all_cons, List.all_nil, PM.owned, PM.noLS, PM.noL, PM.noLs, Bool.or_true, Bool.true_or, Bool.or_false, Bool.false_or, Bool.and_true, Bool.true_and, Bool.and_false, Bool.false_and, Bool.not_true, Bool.not_false, List.isEmpty_map, PM.setS, PM.augIxS, PM.isD, PM.isNonD, PM.isBlD, PM.isNotD, PM.sumD, PM.allD, PM.anyD, PM.absD, PM.gcdD, PM.bitsD, PM.maxD, PM.minD, reduceCtorEq, decide_true, decide_false, eq_self, Nat.zero_add, Nat.reduceAdd, Nat.reduceSub, Nat.reduceLT, Nat.reduceEqDiff, Int.reduceAdd, Int.reduceSub, Int.reduceMul, Int.cast_ofNat_Int, Int.reduceBNe, Int.reduceBEq, Int.reduceNe, Nat.reduceBEq, PySem.sizeLine_eq, Nat.reduceLeDiff, Nat.reduceMul, Nat.reducePow, Int.reduceLE, Int.reduceLT, Int.reduceNeg, Int.reducePow, Int.reduceEq, and_self, and_true, true_and, PM.lcE, PM.compF, PM.yes, PM.wipeE, PM.restE, PM.clean, PM.forF, PM.blsD, decide_eq_true_eq, List.all_cons, List.all_nil, id_eq, PM.cut, HT.sIx, L2.atI, L2.ixN, Int.reduceToNat, Nat.min_def, List.drop_succ_cons, List.drop_zero, List.drop_nil, List.take_nil, Nat.reduceSub, List.take_succ_cons, List.take_zero, Option.bind_some, Option.bind_none, and_false, false_and, Nat.reduceLT, PM.revD, PM.rev0D, List.reverse_cons, List.reverse_nil, j1, j2, l2])]
    rw [seq_nx st, seq_nx st2]
    rw [seq_nx (ρ1 := [s0, s1, some (true, .lst (l.map D.int)), some (false, W u2), some (false, W v), some (false, W (d * d)), some (false, .int w), some (false, W d), some (false, W (v * d)), some (false, W (u2 + v * d)), s10, s11, s12, s13]) (by
      unfold W T
      simp only [PM.tgT, PM.tgs, PM.callE, PM.runF, PM.initE, PM.seqS, PM.asgS, PM.tgS, PM.parS, PM.appS, PM.augS, PM.dropS, PM.retS, PM.retN, PM.retV, PM.ifS, PM.forS, PM.M.thenS, PM.M.bind, PM.M.lift, PM.ret, PM.cst, PM.var, PM.pvar, PM.pk, PM.bin, PM.asB, PM.truth, PM.tru, PM.tand, PM.tor, PM.tnot, PM.vand, PM.vor, PM.vnot, PM.iff, PM.sli, PM.ono, PM.oin, PM.acons, PM.anil, PM.cnil, PM.cval, PM.cvw, PM.lstE, PM.tupE, PM.blt, PM.isi, PM.una, PM.smE, PM.src, PM.rng1, PM.rng2, PM.skip, PM.brkS, PM.cntS, PM.tgN, PM.itemsD, PM.tyD, PM.Ty.sub, PM.addD, PM.addIA, PM.subD, PM.mulD, PM.mulID, PM.fdivD, PM.modD, PM.powD, PM.ltD, PM.leD, PM.gtD, PM.geD, PM.cmpD, PM.eqD, PM.neD, PM.ixD, PM.sliceD, PM.lenD, PM.intD, PM.strD, PM.listD, PM.tupD, PM.joinD, PM.rjustD, PM.negD, List.length_cons, List.length_nil, List.getElem?_cons_zero, List.getElem?_cons_succ, List.set_cons_zero, List.set_cons_succ, List.map_cons, List.map_nil, List.cons_append, List.nil_append, List.append_nil, List.replicate, List.length_map, List.length_append, if_true, if_false, ite_true, ite_false, reduceIte, Bool.false_eq_true, decide_eq_true_eq, Option.map_some, Option.map_none, Option.bind_some, Option.bind_none, Option.some.injEq, Option.join, List.isEmpty_cons, List.isEmpty_nil, List.all_cons, List.all_nil, PM.owned, PM.noLS, PM.noL, PM.noLs, Bool.or_true, Bool.true_or, Bool.or_false, Bool.false_or, Bool.and_true, Bool.true_and, Bool.and_false, Bool.false_and, Bool.not_true, Bool.not_false, List.isEmpty_map, PM.setS, PM.augIxS, PM.isD, PM.isNonD, PM.isBlD, PM.isNotD, PM.sumD, PM.allD, PM.anyD, PM.absD, PM.gcdD, PM.bitsD, PM.maxD, PM.minD, reduceCtorEq, decide_true, decide_false, eq_self, Nat.zero_add, Nat.reduceAdd, Nat.reduceSub, Nat.reduceLT, Nat.reduceEqDiff, Int.reduceAdd, Int.reduceSub, Int.reduceMul, Int.cast_ofNat_Int, Int.reduceBNe, Int.reduceBEq, Int.reduceNe, Nat.reduceBEq, PySem.sizeLine_eq, Nat.reduceLeDiff, Nat.reduceMul, Nat.reducePow, Int.reduceLE, Int.reduceLT, Int.reduceNeg, Int.reducePow, Int.reduceEq, and_self, and_true, true_and, PM.lcE, PM.compF, PM.yes, PM.wipeE, PM.restE, PM.clean, PM.forF, PM.blsD, decide_eq_true_eq, List.all_cons, List.all_nil, id_eq, PM.cut, HT.sIx, L2.atI, L2.ixN, Int.reduceToNat, Nat.min_def, List.drop_succ_cons, List.drop_zero, List.drop_nil, List.take_nil, Nat.reduceSub, List.take_succ_cons, List.take_zero, Option.bind_some, Option.bind_none, and_false, false_and, Nat.reduceLT, PM.revD, PM.rev0D, List.reverse_cons, List.reverse_nil, i1, i2, i3, i4, l3])]
    rw [seq_nx (ρ1 := [s0, s1, some (true, .lst (l.map D.int)), some (false, W u2), some (false, W v), some (false, W (d * d)), some (false, .int w), some (false, W d), some (false, W (v * d)), some (false, W (u2 + v * d)), s10, s11, s12, s13]) (by
      simp only [PM.tgT, PM.tgs, PM.callE, PM.runF, PM.initE, PM.seqS, PM.asgS, PM.tgS, PM.parS, PM.appS, PM.augS, PM.dropS, PM.retS, PM.retN, PM.retV, PM.ifS, PM.forS, PM.M.thenS, PM.M.bind, PM.M.lift, PM.ret, PM.cst, PM.var, PM.pvar, PM.pk, PM.bin, PM.asB, PM.truth, PM.tru, PM.tand, PM.tor, PM.tnot, PM.vand, PM.vor, PM.vnot, PM.iff, PM.sli, PM.ono, PM.oin, PM.acons, PM.anil, PM.cnil, PM.cval, PM.cvw, PM.lstE, PM.tupE, PM.blt, PM.isi, PM.una, PM.smE, PM.src, PM.rng1, PM.rng2, PM.skip, PM.brkS, PM.cntS, PM.tgN, PM.itemsD, PM.tyD, PM.Ty.sub, PM.addD, PM.addIA, PM.subD, PM.mulD, PM.mulID, PM.fdivD, PM.modD, PM.powD, PM.ltD, PM.leD, PM.gtD, PM.geD, PM.cmpD, PM.eqD, PM.neD, PM.ixD, PM.sliceD, PM.lenD, PM.intD, PM.strD, PM.listD, PM.tupD, PM.joinD, PM.rjustD, PM.negD, List.length_cons, List.length_nil, List.getElem?_cons_zero, List.getElem?_cons_succ, List.set_cons_zero, List.set_cons_succ, List.map_cons, List.map_nil, List.cons_append, List.nil_append, List.append_nil, List.replicate, List.length_map, List.length_append, if_true, if_false, ite_true, ite_false, reduceIte, Bool.false_eq_true, decide_eq_true_eq, Option.map_some, Option.map_none, Option.bind_some, Option.bind_none, Option.some.injEq, Option.join, List.isEmpty_cons, List.isEmpty_nil, List.all_cons, List.all_nil, PM.owned, PM.noLS, PM.noL, PM.noLs, Bool.or_true, Bool.true_or, Bool.or_false, Bool.false_or, Bool.and_true, Bool.true_and, Bool.and_false, Bool.false_and, Bool.not_true, Bool.not_false, List.isEmpty_map, PM.setS, PM.augIxS, PM.isD, PM.isNonD, PM.isBlD, PM.isNotD, PM.sumD, PM.allD, PM.anyD, PM.absD, PM.gcdD, PM.bitsD, PM.maxD, PM.minD, reduceCtorEq, decide_true, decide_false, eq_self, Nat.zero_add, Nat.reduceAdd, Nat.reduceSub, Nat.reduceLT, Nat.reduceEqDiff, Int.reduceAdd, Int.reduceSub, Int.reduceMul, Int.cast_ofNat_Int, Int.reduceBNe, Int.reduceBEq, Int.reduceNe, Nat.reduceBEq, PySem.sizeLine_eq, Nat.reduceLeDiff, Nat.reduceMul, Nat.reducePow, Int.reduceLE, Int.reduceLT, Int.reduceNeg, Int.reducePow, Int.reduceEq, and_self, and_true, true_and, cp, noW])]
    simp only [PM.tgT, PM.tgs, PM.callE, PM.runF, PM.initE, PM.seqS, PM.asgS, PM.tgS, PM.parS, PM.appS, PM.augS, PM.dropS, PM.retS, PM.retN, PM.retV, PM.ifS, PM.forS, PM.M.thenS, PM.M.bind, PM.M.lift, PM.ret, PM.cst, PM.var, PM.pvar, PM.pk, PM.bin, PM.asB, PM.truth, PM.tru, PM.tand, PM.tor, PM.tnot, PM.vand, PM.vor, PM.vnot, PM.iff, PM.sli, PM.ono, PM.oin, PM.acons, PM.anil, PM.cnil, PM.cval, PM.cvw, PM.lstE, PM.tupE, PM.blt, PM.isi, PM.una, PM.smE, PM.src, PM.rng1, PM.rng2, PM.skip, PM.brkS, PM.cntS, PM.tgN, PM.itemsD, PM.tyD, PM.Ty.sub, PM.addD, PM.addIA, PM.subD, PM.mulD, PM.mulID, PM.fdivD, PM.modD, PM.powD, PM.ltD, PM.leD, PM.gtD, PM.geD, PM.cmpD, PM.eqD, PM.neD, PM.ixD, PM.sliceD, PM.lenD, PM.intD, PM.strD, PM.listD, PM.tupD, PM.joinD, PM.rjustD, PM.negD, List.length_cons, List.length_nil, List.getElem?_cons_zero, List.getElem?_cons_succ, List.set_cons_zero, List.set_cons_succ, List.map_cons, List.map_nil, List.cons_append, List.nil_append, List.append_nil, List.replicate, List.length_map, List.length_append, if_true, if_false, ite_true, ite_false, reduceIte, Bool.false_eq_true, decide_eq_true_eq, Option.map_some, Option.map_none, Option.bind_some, Option.bind_none, Option.some.injEq, Option.join, List.isEmpty_cons, List.isEmpty_nil, List.all_cons, List.all_nil, PM.owned, PM.noLS, PM.noL, PM.noLs, Bool.or_true, Bool.true_or, Bool.or_false, Bool.false_or, Bool.and_true, Bool.true_and, Bool.and_false, Bool.false_and, Bool.not_true, Bool.not_false, List.isEmpty_map, PM.setS, PM.augIxS, PM.isD, PM.isNonD, PM.isBlD, PM.isNotD, PM.sumD, PM.allD, PM.anyD, PM.absD, PM.gcdD, PM.bitsD, PM.maxD, PM.minD, reduceCtorEq, decide_true, decide_false, eq_self, Nat.zero_add, Nat.reduceAdd, Nat.reduceSub, Nat.reduceLT, Nat.reduceEqDiff, Int.reduceAdd, Int.reduceSub, Int.reduceMul, Int.cast_ofNat_Int, Int.reduceBNe, Int.reduceBEq, Int.reduceNe, Nat.reduceBEq, PySem.sizeLine_eq, Nat.reduceLeDiff, Nat.reduceMul, Nat.reducePow, Int.reduceLE, Int.reduceLT, Int.reduceNeg, Int.reducePow, Int.reduceEq, and_self, and_true, true_and, cs, sI, noW]
  · refine ⟨u, d, none, none, none, fu.uu, fd.dd dn, ?_⟩
    unfold T8_law
    simp only [PM.tgT, PM.tgs, PM.callE, PM.runF, PM.initE, PM.seqS, PM.asgS, PM.tgS, PM.parS, PM.appS, PM.augS, PM.dropS, PM.retS, PM.retN, PM.retV, PM.ifS, PM.forS, PM.M.thenS, PM.M.bind, PM.M.lift, PM.ret, PM.cst, PM.var, PM.pvar, PM.pk, PM.bin, PM.asB, PM.truth, PM.tru, PM.tand, PM.tor, PM.tnot, PM.vand, PM.vor, PM.vnot, PM.iff, PM.sli, PM.ono, PM.oin, PM.acons, PM.anil, PM.cnil, PM.cval, PM.cvw, PM.lstE, PM.tupE, PM.blt, PM.isi, PM.una, PM.smE, PM.src, PM.rng1, PM.rng2, PM.skip, PM.brkS, PM.cntS, PM.tgN, PM.itemsD, PM.tyD, PM.Ty.sub, PM.addD, PM.addIA, PM.subD, PM.mulD, PM.mulID, PM.fdivD, PM.modD, PM.powD, PM.ltD, PM.leD, PM.gtD, PM.geD, PM.cmpD, PM.eqD, PM.neD, PM.ixD, PM.sliceD, PM.lenD, PM.intD, PM.strD, PM.listD, PM.tupD, PM.joinD, PM.rjustD, PM.negD, List.length_cons, List.length_nil, List.getElem?_cons_zero, List.getElem?_cons_succ, List.set_cons_zero, List.set_cons_succ, List.map_cons, List.map_nil, List.cons_append, List.nil_append, List.append_nil, List.replicate, List.length_map, List.length_append, if_true, if_false, ite_true, ite_false, reduceIte, Bool.false_eq_true, decide_eq_true_eq, Option.map_some, Option.map_none, Option.bind_some, Option.bind_none, Option.some.injEq, Option.join, List.isEmpty_cons, List.isEmpty_nil, List.all_cons, List.all_nil, PM.owned, PM.noLS, PM.noL, PM.noLs, Bool.or_true, Bool.true_or, Bool.or_false, Bool.false_or, Bool.and_true, Bool.true_and, Bool.and_false, Bool.false_and, Bool.not_true, Bool.not_false, List.isEmpty_map, PM.setS, PM.augIxS, PM.isD, PM.isNonD, PM.isBlD, PM.isNotD, PM.sumD, PM.allD, PM.anyD, PM.absD, PM.gcdD, PM.bitsD, PM.maxD, PM.minD, reduceCtorEq, decide_true, decide_false, eq_self, Nat.zero_add, Nat.reduceAdd, Nat.reduceSub, Nat.reduceLT, Nat.reduceEqDiff, Int.reduceAdd, Int.reduceSub, Int.reduceMul, Int.cast_ofNat_Int, Int.reduceBNe, Int.reduceBEq, Int.reduceNe, Nat.reduceBEq, PySem.sizeLine_eq, Nat.reduceLeDiff, Nat.reduceMul, Nat.reducePow, Int.reduceLE, Int.reduceLT, Int.reduceNeg, Int.reducePow, Int.reduceEq, and_self, and_true, true_and, decide_eq_false c]
end LawW

namespace LawW
open PySem L2 PM
theorem step_r {u v d : Rat} (g : Good u v d) {fine near j : Int} (f0 : 0 < fine) (f1 : nb 84 fine) (hn : nb 166 near) (hj : nb 1 j) (s0 s1 s2 s6 s7 s8 s9 x13 : Option Slot) :
    ∃ y, L1_law [s0, s1, s2, some (false, W u), some (false, W v), some (false, W d), s6, s7, s8, s9, some (false, .int fine), some (false, .int near), some (false, .int j), x13] = .nx [s0, s1, s2, some (false, W u), some (false, W v), some (false, W d), s6, s7, s8, s9, some (false, .int fine), some (false, .int near), some (false, .int j), y] := by
  have bu := g.bu
  have bv := g.bv
  have fv := bs_fr v
  have pv : (0 : Int) < v.den := by have := v.den_pos; omega
  have h1 : nb 167 (near + j) := nb_add hn (nb_up hj (by decide))
  have kp : nb 248 (v.num * (near + j)) := nb_up (nb_mul fv.a h1) (by omega)
  have kq : nb 248 ((v.den : Int) * fine) := nb_up (nb_mul fv.b f1) (by omega)
  have m1 : mulOk v.num (near + j) = true := mul_nb fv.a h1 (by omega)
  have m2 : mulOk (v.den : Int) fine = true := mul_nb fv.b f1 (by omega)
  obtain ⟨r, _, br, er⟩ := frac (p := v.num * (near + j)) (q := (v.den : Int) * fine) 247 (Int.mul_pos pv f0) kp kq (by decide)
  have er : M__law_lowest [.int (v.num * (near + j)), .int ((v.den : Int) * fine)] = .ok (false, .tup [.int r.num, .int (r.den : Int)]) := er
  obtain ⟨i1, i2, i3, i4⟩ := mok (r := u) (s := r) (by omega) (by omega)
  have l3 := lo_add (r := u) (s := r) (by omega) (by omega)
  have b4 := bs_add u r
  obtain ⟨cp, _⟩ := compared_ok (r := u + r) g (by omega)
  refine ⟨some (false, W (u + r)), ?_⟩
  unfold L1_law
  rw [seq_nx (ρ1 := [s0, s1, s2, some (false, W u), some (false, W v), some (false, W d), s6, s7, s8, s9, some (false, .int fine), some (false, .int near), some (false, .int j), some (false, W r)]) (by
    unfold W T
    simp only [PM.tgT, PM.tgs, PM.callE, PM.runF, PM.initE, PM.seqS, PM.asgS, PM.tgS, PM.parS, PM.appS, PM.augS, PM.dropS, PM.retS, PM.retN, PM.retV, PM.ifS, PM.forS, PM.M.thenS, PM.M.bind, PM.M.lift, PM.ret, PM.cst, PM.var, PM.pvar, PM.pk, PM.bin, PM.asB, PM.truth, PM.tru, PM.tand, PM.tor, PM.tnot, PM.vand, PM.vor, PM.vnot, PM.iff, PM.sli, PM.ono, PM.oin, PM.acons, PM.anil, PM.cnil, PM.cval, PM.cvw, PM.lstE, PM.tupE, PM.blt, PM.isi, PM.una, PM.smE, PM.src, PM.rng1, PM.rng2, PM.skip, PM.brkS, PM.cntS, PM.tgN, PM.itemsD, PM.tyD, PM.Ty.sub, PM.addD, PM.addIA, PM.subD, PM.mulD, PM.mulID, PM.fdivD, PM.modD, PM.powD, PM.ltD, PM.leD, PM.gtD, PM.geD, PM.cmpD, PM.eqD, PM.neD, PM.ixD, PM.sliceD, PM.lenD, PM.intD, PM.strD, PM.listD, PM.tupD, PM.joinD, PM.rjustD, PM.negD, List.length_cons, List.length_nil, List.getElem?_cons_zero, List.getElem?_cons_succ, List.set_cons_zero, List.set_cons_succ, List.map_cons, List.map_nil, List.cons_append, List.nil_append, List.append_nil, List.replicate, List.length_map, List.length_append, if_true, if_false, ite_true, ite_false, reduceIte, Bool.false_eq_true, decide_eq_true_eq, Option.map_some, Option.map_none, Option.bind_some, Option.bind_none, Option.some.injEq, Option.join, List.isEmpty_cons, List.isEmpty_nil, List.all_cons, List.all_nil, PM.owned, PM.noLS, PM.noL, PM.noLs, Bool.or_true, Bool.true_or, Bool.or_false, Bool.false_or, Bool.and_true, Bool.true_and, Bool.and_false, Bool.false_and, Bool.not_true, Bool.not_false, List.isEmpty_map, PM.setS, PM.augIxS, PM.isD, PM.isNonD, PM.isBlD, PM.isNotD, PM.sumD, PM.allD, PM.anyD, PM.absD, PM.gcdD, PM.bitsD, PM.maxD, PM.minD, reduceCtorEq, decide_true, decide_false, eq_self, Nat.zero_add, Nat.reduceAdd, Nat.reduceSub, Nat.reduceLT, Nat.reduceEqDiff, Int.reduceAdd, Int.reduceSub, Int.reduceMul, Int.cast_ofNat_Int, Int.reduceBNe, Int.reduceBEq, Int.reduceNe, Nat.reduceBEq, PySem.sizeLine_eq, Nat.reduceLeDiff, Nat.reduceMul, Nat.reducePow, Int.reduceLE, Int.reduceLT, Int.reduceNeg, Int.reducePow, Int.reduceEq, and_self, and_true, true_and, PM.lcE, PM.compF, PM.yes, PM.wipeE, PM.restE, PM.clean, PM.forF, PM.blsD, decide_eq_true_eq, List.all_cons, List.all_nil, id_eq, PM.cut, HT.sIx, L2.atI, L2.ixN, Int.reduceToNat, Nat.min_def, List.drop_succ_cons, List.drop_zero, List.drop_nil, List.take_nil, Nat.reduceSub, List.take_succ_cons, List.take_zero, Option.bind_some, Option.bind_none, and_false, false_and, Nat.reduceLT, PM.revD, PM.rev0D, List.reverse_cons, List.reverse_nil, m1, m2, er])]
  rw [seq_nx (ρ1 := [s0, s1, s2, some (false, W u), some (false, W v), some (false, W d), s6, s7, s8, s9, some (false, .int fine), some (false, .int near), some (false, .int j), some (false, W (u + r))]) (by
    unfold W T
    simp only [PM.tgT, PM.tgs, PM.callE, PM.runF, PM.initE, PM.seqS, PM.asgS, PM.tgS, PM.parS, PM.appS, PM.augS, PM.dropS, PM.retS, PM.retN, PM.retV, PM.ifS, PM.forS, PM.M.thenS, PM.M.bind, PM.M.lift, PM.ret, PM.cst, PM.var, PM.pvar, PM.pk, PM.bin, PM.asB, PM.truth, PM.tru, PM.tand, PM.tor, PM.tnot, PM.vand, PM.vor, PM.vnot, PM.iff, PM.sli, PM.ono, PM.oin, PM.acons, PM.anil, PM.cnil, PM.cval, PM.cvw, PM.lstE, PM.tupE, PM.blt, PM.isi, PM.una, PM.smE, PM.src, PM.rng1, PM.rng2, PM.skip, PM.brkS, PM.cntS, PM.tgN, PM.itemsD, PM.tyD, PM.Ty.sub, PM.addD, PM.addIA, PM.subD, PM.mulD, PM.mulID, PM.fdivD, PM.modD, PM.powD, PM.ltD, PM.leD, PM.gtD, PM.geD, PM.cmpD, PM.eqD, PM.neD, PM.ixD, PM.sliceD, PM.lenD, PM.intD, PM.strD, PM.listD, PM.tupD, PM.joinD, PM.rjustD, PM.negD, List.length_cons, List.length_nil, List.getElem?_cons_zero, List.getElem?_cons_succ, List.set_cons_zero, List.set_cons_succ, List.map_cons, List.map_nil, List.cons_append, List.nil_append, List.append_nil, List.replicate, List.length_map, List.length_append, if_true, if_false, ite_true, ite_false, reduceIte, Bool.false_eq_true, decide_eq_true_eq, Option.map_some, Option.map_none, Option.bind_some, Option.bind_none, Option.some.injEq, Option.join, List.isEmpty_cons, List.isEmpty_nil, List.all_cons, List.all_nil, PM.owned, PM.noLS, PM.noL, PM.noLs, Bool.or_true, Bool.true_or, Bool.or_false, Bool.false_or, Bool.and_true, Bool.true_and, Bool.and_false, Bool.false_and, Bool.not_true, Bool.not_false, List.isEmpty_map, PM.setS, PM.augIxS, PM.isD, PM.isNonD, PM.isBlD, PM.isNotD, PM.sumD, PM.allD, PM.anyD, PM.absD, PM.gcdD, PM.bitsD, PM.maxD, PM.minD, reduceCtorEq, decide_true, decide_false, eq_self, Nat.zero_add, Nat.reduceAdd, Nat.reduceSub, Nat.reduceLT, Nat.reduceEqDiff, Int.reduceAdd, Int.reduceSub, Int.reduceMul, Int.cast_ofNat_Int, Int.reduceBNe, Int.reduceBEq, Int.reduceNe, Nat.reduceBEq, PySem.sizeLine_eq, Nat.reduceLeDiff, Nat.reduceMul, Nat.reducePow, Int.reduceLE, Int.reduceLT, Int.reduceNeg, Int.reducePow, Int.reduceEq, and_self, and_true, true_and, PM.lcE, PM.compF, PM.yes, PM.wipeE, PM.restE, PM.clean, PM.forF, PM.blsD, decide_eq_true_eq, List.all_cons, List.all_nil, id_eq, PM.cut, HT.sIx, L2.atI, L2.ixN, Int.reduceToNat, Nat.min_def, List.drop_succ_cons, List.drop_zero, List.drop_nil, List.take_nil, Nat.reduceSub, List.take_succ_cons, List.take_zero, Option.bind_some, Option.bind_none, and_false, false_and, Nat.reduceLT, PM.revD, PM.rev0D, List.reverse_cons, List.reverse_nil, i1, i2, i3, i4, l3])]
  simp only [PM.tgT, PM.tgs, PM.callE, PM.runF, PM.initE, PM.seqS, PM.asgS, PM.tgS, PM.parS, PM.appS, PM.augS, PM.dropS, PM.retS, PM.retN, PM.retV, PM.ifS, PM.forS, PM.M.thenS, PM.M.bind, PM.M.lift, PM.ret, PM.cst, PM.var, PM.pvar, PM.pk, PM.bin, PM.asB, PM.truth, PM.tru, PM.tand, PM.tor, PM.tnot, PM.vand, PM.vor, PM.vnot, PM.iff, PM.sli, PM.ono, PM.oin, PM.acons, PM.anil, PM.cnil, PM.cval, PM.cvw, PM.lstE, PM.tupE, PM.blt, PM.isi, PM.una, PM.smE, PM.src, PM.rng1, PM.rng2, PM.skip, PM.brkS, PM.cntS, PM.tgN, PM.itemsD, PM.tyD, PM.Ty.sub, PM.addD, PM.addIA, PM.subD, PM.mulD, PM.mulID, PM.fdivD, PM.modD, PM.powD, PM.ltD, PM.leD, PM.gtD, PM.geD, PM.cmpD, PM.eqD, PM.neD, PM.ixD, PM.sliceD, PM.lenD, PM.intD, PM.strD, PM.listD, PM.tupD, PM.joinD, PM.rjustD, PM.negD, List.length_cons, List.length_nil, List.getElem?_cons_zero, List.getElem?_cons_succ, List.set_cons_zero, List.set_cons_succ, List.map_cons, List.map_nil, List.cons_append, List.nil_append, List.append_nil, List.replicate, List.length_map, List.length_append, if_true, if_false, ite_true, ite_false, reduceIte, Bool.false_eq_true, decide_eq_true_eq, Option.map_some, Option.map_none, Option.bind_some, Option.bind_none, Option.some.injEq, Option.join, List.isEmpty_cons, List.isEmpty_nil, List.all_cons, List.all_nil, PM.owned, PM.noLS, PM.noL, PM.noLs, Bool.or_true, Bool.true_or, Bool.or_false, Bool.false_or, Bool.and_true, Bool.true_and, Bool.and_false, Bool.false_and, Bool.not_true, Bool.not_false, List.isEmpty_map, PM.setS, PM.augIxS, PM.isD, PM.isNonD, PM.isBlD, PM.isNotD, PM.sumD, PM.allD, PM.anyD, PM.absD, PM.gcdD, PM.bitsD, PM.maxD, PM.minD, reduceCtorEq, decide_true, decide_false, eq_self, Nat.zero_add, Nat.reduceAdd, Nat.reduceSub, Nat.reduceLT, Nat.reduceEqDiff, Int.reduceAdd, Int.reduceSub, Int.reduceMul, Int.cast_ofNat_Int, Int.reduceBNe, Int.reduceBEq, Int.reduceNe, Nat.reduceBEq, PySem.sizeLine_eq, Nat.reduceLeDiff, Nat.reduceMul, Nat.reducePow, Int.reduceLE, Int.reduceLT, Int.reduceNeg, Int.reducePow, Int.reduceEq, and_self, and_true, true_and, cp, noW]
theorem law_true (ns : List Int) (hl : ns.length ≤ 63) : M_law [PM.scr ns] = .ok (false, .bl true) := by
  obtain ⟨l1, N1, E1⟩ := numbers_ok ns hl (a := 0) (c := 8) (n := 8) (by decide) (by decide) rfl (by decide) (by decide)
  obtain ⟨l2, N2, E2⟩ := numbers_ok ns hl (a := 1) (c := 10) (n := 10) (by decide) (by decide) rfl (by decide) (by decide)
  have nl1 := nlst l1
  have nl2 := nlst l2
  obtain ⟨u0, fu, eu⟩ := fraction_ok N1 (k := 0) (by decide) (by decide)
  obtain ⟨v0, fv, ev⟩ := fraction_ok N1 (k := 4) (by decide) (by decide)
  obtain ⟨d0, fd0, ed⟩ := fraction_ok N2 (k := 0) (by decide) (by decide)
  obtain ⟨z, fz, ez⟩ := fraction_ok N2 (k := 6) (by decide) (by decide)
  obtain ⟨a4, e4, a40, a41⟩ := N2.at (i := 4) (by decide) (by decide)
  obtain ⟨a6, e6, a60, a61⟩ := N2.at (i := 6) (by decide) (by decide)
  have p4 := pick_ok e4 (m := 9) (by decide) (by decide)
  have p6 := pick_ok e6 (m := 2) (by decide) (by decide)
  generalize a4 % 9 = w at p4
  generalize a6 % 2 = b6 at p6
  have fd := fd0.ab
  have dn := abR_nn d0
  have ab := abR_W d0
  generalize abR d0 = d at *
  obtain ⟨u, d', x7, x8, x9, hu, hd', t8⟩ := ways_ok N2 fu fv fd dn w (some (false, scr ns)) (some (true, .lst (l1.map D.int))) none none none none
  refine run_rt rfl ?_
  unfold S_law
  have t1 : T1_law (initE 14 [scr ns]) = .nx [some (false, scr ns), some (true, .lst (l1.map D.int)), none, none, none, none, none, none, none, none, none, none, none, none] := by
    unfold T1_law
    simp only [PM.tgT, PM.tgs, PM.callE, PM.runF, PM.initE, PM.seqS, PM.asgS, PM.tgS, PM.parS, PM.appS, PM.augS, PM.dropS, PM.retS, PM.retN, PM.retV, PM.ifS, PM.forS, PM.M.thenS, PM.M.bind, PM.M.lift, PM.ret, PM.cst, PM.var, PM.pvar, PM.pk, PM.bin, PM.asB, PM.truth, PM.tru, PM.tand, PM.tor, PM.tnot, PM.vand, PM.vor, PM.vnot, PM.iff, PM.sli, PM.ono, PM.oin, PM.acons, PM.anil, PM.cnil, PM.cval, PM.cvw, PM.lstE, PM.tupE, PM.blt, PM.isi, PM.una, PM.smE, PM.src, PM.rng1, PM.rng2, PM.skip, PM.brkS, PM.cntS, PM.tgN, PM.itemsD, PM.tyD, PM.Ty.sub, PM.addD, PM.addIA, PM.subD, PM.mulD, PM.mulID, PM.fdivD, PM.modD, PM.powD, PM.ltD, PM.leD, PM.gtD, PM.geD, PM.cmpD, PM.eqD, PM.neD, PM.ixD, PM.sliceD, PM.lenD, PM.intD, PM.strD, PM.listD, PM.tupD, PM.joinD, PM.rjustD, PM.negD, List.length_cons, List.length_nil, List.getElem?_cons_zero, List.getElem?_cons_succ, List.set_cons_zero, List.set_cons_succ, List.map_cons, List.map_nil, List.cons_append, List.nil_append, List.append_nil, List.replicate, List.length_map, List.length_append, if_true, if_false, ite_true, ite_false, reduceIte, Bool.false_eq_true, decide_eq_true_eq, Option.map_some, Option.map_none, Option.bind_some, Option.bind_none, Option.some.injEq, Option.join, List.isEmpty_cons, List.isEmpty_nil, List.all_cons, List.all_nil, PM.owned, PM.noLS, PM.noL, PM.noLs, Bool.or_true, Bool.true_or, Bool.or_false, Bool.false_or, Bool.and_true, Bool.true_and, Bool.and_false, Bool.false_and, Bool.not_true, Bool.not_false, List.isEmpty_map, PM.setS, PM.augIxS, PM.isD, PM.isNonD, PM.isBlD, PM.isNotD, PM.sumD, PM.allD, PM.anyD, PM.absD, PM.gcdD, PM.bitsD, PM.maxD, PM.minD, reduceCtorEq, decide_true, decide_false, eq_self, Nat.zero_add, Nat.reduceAdd, Nat.reduceSub, Nat.reduceLT, Nat.reduceEqDiff, Int.reduceAdd, Int.reduceSub, Int.reduceMul, Int.cast_ofNat_Int, Int.reduceBNe, Int.reduceBEq, Int.reduceNe, Nat.reduceBEq, PySem.sizeLine_eq, Nat.reduceLeDiff, Nat.reduceMul, Nat.reducePow, Int.reduceLE, Int.reduceLT, Int.reduceNeg, Int.reducePow, Int.reduceEq, and_self, and_true, true_and, E1]
  rw [seq_nx t1]
  rw [seq_nx (S1 := T2_law) (ρ1 := [some (false, scr ns), some (true, .lst (l1.map D.int)), some (true, .lst (l2.map D.int)), none, none, none, none, none, none, none, none, none, none, none]) (by
    unfold T2_law
    simp only [PM.tgT, PM.tgs, PM.callE, PM.runF, PM.initE, PM.seqS, PM.asgS, PM.tgS, PM.parS, PM.appS, PM.augS, PM.dropS, PM.retS, PM.retN, PM.retV, PM.ifS, PM.forS, PM.M.thenS, PM.M.bind, PM.M.lift, PM.ret, PM.cst, PM.var, PM.pvar, PM.pk, PM.bin, PM.asB, PM.truth, PM.tru, PM.tand, PM.tor, PM.tnot, PM.vand, PM.vor, PM.vnot, PM.iff, PM.sli, PM.ono, PM.oin, PM.acons, PM.anil, PM.cnil, PM.cval, PM.cvw, PM.lstE, PM.tupE, PM.blt, PM.isi, PM.una, PM.smE, PM.src, PM.rng1, PM.rng2, PM.skip, PM.brkS, PM.cntS, PM.tgN, PM.itemsD, PM.tyD, PM.Ty.sub, PM.addD, PM.addIA, PM.subD, PM.mulD, PM.mulID, PM.fdivD, PM.modD, PM.powD, PM.ltD, PM.leD, PM.gtD, PM.geD, PM.cmpD, PM.eqD, PM.neD, PM.ixD, PM.sliceD, PM.lenD, PM.intD, PM.strD, PM.listD, PM.tupD, PM.joinD, PM.rjustD, PM.negD, List.length_cons, List.length_nil, List.getElem?_cons_zero, List.getElem?_cons_succ, List.set_cons_zero, List.set_cons_succ, List.map_cons, List.map_nil, List.cons_append, List.nil_append, List.append_nil, List.replicate, List.length_map, List.length_append, if_true, if_false, ite_true, ite_false, reduceIte, Bool.false_eq_true, decide_eq_true_eq, Option.map_some, Option.map_none, Option.bind_some, Option.bind_none, Option.some.injEq, Option.join, List.isEmpty_cons, List.isEmpty_nil, List.all_cons, List.all_nil, PM.owned, PM.noLS, PM.noL, PM.noLs, Bool.or_true, Bool.true_or, Bool.or_false, Bool.false_or, Bool.and_true, Bool.true_and, Bool.and_false, Bool.false_and, Bool.not_true, Bool.not_false, List.isEmpty_map, PM.setS, PM.augIxS, PM.isD, PM.isNonD, PM.isBlD, PM.isNotD, PM.sumD, PM.allD, PM.anyD, PM.absD, PM.gcdD, PM.bitsD, PM.maxD, PM.minD, reduceCtorEq, decide_true, decide_false, eq_self, Nat.zero_add, Nat.reduceAdd, Nat.reduceSub, Nat.reduceLT, Nat.reduceEqDiff, Int.reduceAdd, Int.reduceSub, Int.reduceMul, Int.cast_ofNat_Int, Int.reduceBNe, Int.reduceBEq, Int.reduceNe, Nat.reduceBEq, PySem.sizeLine_eq, Nat.reduceLeDiff, Nat.reduceMul, Nat.reducePow, Int.reduceLE, Int.reduceLT, Int.reduceNeg, Int.reducePow, Int.reduceEq, and_self, and_true, true_and, E2])]
  rw [seq_nx (S1 := T3_law) (ρ1 := [some (false, scr ns), some (true, .lst (l1.map D.int)), some (true, .lst (l2.map D.int)), some (false, W u0), none, none, none, none, none, none, none, none, none, none]) (by
    unfold T3_law
    simp only [PM.tgT, PM.tgs, PM.callE, PM.runF, PM.initE, PM.seqS, PM.asgS, PM.tgS, PM.parS, PM.appS, PM.augS, PM.dropS, PM.retS, PM.retN, PM.retV, PM.ifS, PM.forS, PM.M.thenS, PM.M.bind, PM.M.lift, PM.ret, PM.cst, PM.var, PM.pvar, PM.pk, PM.bin, PM.asB, PM.truth, PM.tru, PM.tand, PM.tor, PM.tnot, PM.vand, PM.vor, PM.vnot, PM.iff, PM.sli, PM.ono, PM.oin, PM.acons, PM.anil, PM.cnil, PM.cval, PM.cvw, PM.lstE, PM.tupE, PM.blt, PM.isi, PM.una, PM.smE, PM.src, PM.rng1, PM.rng2, PM.skip, PM.brkS, PM.cntS, PM.tgN, PM.itemsD, PM.tyD, PM.Ty.sub, PM.addD, PM.addIA, PM.subD, PM.mulD, PM.mulID, PM.fdivD, PM.modD, PM.powD, PM.ltD, PM.leD, PM.gtD, PM.geD, PM.cmpD, PM.eqD, PM.neD, PM.ixD, PM.sliceD, PM.lenD, PM.intD, PM.strD, PM.listD, PM.tupD, PM.joinD, PM.rjustD, PM.negD, List.length_cons, List.length_nil, List.getElem?_cons_zero, List.getElem?_cons_succ, List.set_cons_zero, List.set_cons_succ, List.map_cons, List.map_nil, List.cons_append, List.nil_append, List.append_nil, List.replicate, List.length_map, List.length_append, if_true, if_false, ite_true, ite_false, reduceIte, Bool.false_eq_true, decide_eq_true_eq, Option.map_some, Option.map_none, Option.bind_some, Option.bind_none, Option.some.injEq, Option.join, List.isEmpty_cons, List.isEmpty_nil, List.all_cons, List.all_nil, PM.owned, PM.noLS, PM.noL, PM.noLs, Bool.or_true, Bool.true_or, Bool.or_false, Bool.false_or, Bool.and_true, Bool.true_and, Bool.and_false, Bool.false_and, Bool.not_true, Bool.not_false, List.isEmpty_map, PM.setS, PM.augIxS, PM.isD, PM.isNonD, PM.isBlD, PM.isNotD, PM.sumD, PM.allD, PM.anyD, PM.absD, PM.gcdD, PM.bitsD, PM.maxD, PM.minD, reduceCtorEq, decide_true, decide_false, eq_self, Nat.zero_add, Nat.reduceAdd, Nat.reduceSub, Nat.reduceLT, Nat.reduceEqDiff, Int.reduceAdd, Int.reduceSub, Int.reduceMul, Int.cast_ofNat_Int, Int.reduceBNe, Int.reduceBEq, Int.reduceNe, Nat.reduceBEq, PySem.sizeLine_eq, Nat.reduceLeDiff, Nat.reduceMul, Nat.reducePow, Int.reduceLE, Int.reduceLT, Int.reduceNeg, Int.reducePow, Int.reduceEq, and_self, and_true, true_and, eu, nl1, noW])]
  rw [seq_nx (S1 := T4_law) (ρ1 := [some (false, scr ns), some (true, .lst (l1.map D.int)), some (true, .lst (l2.map D.int)), some (false, W u0), some (false, W v0), none, none, none, none, none, none, none, none, none]) (by
    unfold T4_law
    simp only [PM.tgT, PM.tgs, PM.callE, PM.runF, PM.initE, PM.seqS, PM.asgS, PM.tgS, PM.parS, PM.appS, PM.augS, PM.dropS, PM.retS, PM.retN, PM.retV, PM.ifS, PM.forS, PM.M.thenS, PM.M.bind, PM.M.lift, PM.ret, PM.cst, PM.var, PM.pvar, PM.pk, PM.bin, PM.asB, PM.truth, PM.tru, PM.tand, PM.tor, PM.tnot, PM.vand, PM.vor, PM.vnot, PM.iff, PM.sli, PM.ono, PM.oin, PM.acons, PM.anil, PM.cnil, PM.cval, PM.cvw, PM.lstE, PM.tupE, PM.blt, PM.isi, PM.una, PM.smE, PM.src, PM.rng1, PM.rng2, PM.skip, PM.brkS, PM.cntS, PM.tgN, PM.itemsD, PM.tyD, PM.Ty.sub, PM.addD, PM.addIA, PM.subD, PM.mulD, PM.mulID, PM.fdivD, PM.modD, PM.powD, PM.ltD, PM.leD, PM.gtD, PM.geD, PM.cmpD, PM.eqD, PM.neD, PM.ixD, PM.sliceD, PM.lenD, PM.intD, PM.strD, PM.listD, PM.tupD, PM.joinD, PM.rjustD, PM.negD, List.length_cons, List.length_nil, List.getElem?_cons_zero, List.getElem?_cons_succ, List.set_cons_zero, List.set_cons_succ, List.map_cons, List.map_nil, List.cons_append, List.nil_append, List.append_nil, List.replicate, List.length_map, List.length_append, if_true, if_false, ite_true, ite_false, reduceIte, Bool.false_eq_true, decide_eq_true_eq, Option.map_some, Option.map_none, Option.bind_some, Option.bind_none, Option.some.injEq, Option.join, List.isEmpty_cons, List.isEmpty_nil, List.all_cons, List.all_nil, PM.owned, PM.noLS, PM.noL, PM.noLs, Bool.or_true, Bool.true_or, Bool.or_false, Bool.false_or, Bool.and_true, Bool.true_and, Bool.and_false, Bool.false_and, Bool.not_true, Bool.not_false, List.isEmpty_map, PM.setS, PM.augIxS, PM.isD, PM.isNonD, PM.isBlD, PM.isNotD, PM.sumD, PM.allD, PM.anyD, PM.absD, PM.gcdD, PM.bitsD, PM.maxD, PM.minD, reduceCtorEq, decide_true, decide_false, eq_self, Nat.zero_add, Nat.reduceAdd, Nat.reduceSub, Nat.reduceLT, Nat.reduceEqDiff, Int.reduceAdd, Int.reduceSub, Int.reduceMul, Int.cast_ofNat_Int, Int.reduceBNe, Int.reduceBEq, Int.reduceNe, Nat.reduceBEq, PySem.sizeLine_eq, Nat.reduceLeDiff, Nat.reduceMul, Nat.reducePow, Int.reduceLE, Int.reduceLT, Int.reduceNeg, Int.reducePow, Int.reduceEq, and_self, and_true, true_and, ev, nl1, noW])]
  rw [seq_nx (S1 := T5_law) (ρ1 := [some (false, scr ns), some (true, .lst (l1.map D.int)), some (true, .lst (l2.map D.int)), some (false, W u0), some (false, W v0), some (false, W d0), none, none, none, none, none, none, none, none]) (by
    unfold T5_law
    simp only [PM.tgT, PM.tgs, PM.callE, PM.runF, PM.initE, PM.seqS, PM.asgS, PM.tgS, PM.parS, PM.appS, PM.augS, PM.dropS, PM.retS, PM.retN, PM.retV, PM.ifS, PM.forS, PM.M.thenS, PM.M.bind, PM.M.lift, PM.ret, PM.cst, PM.var, PM.pvar, PM.pk, PM.bin, PM.asB, PM.truth, PM.tru, PM.tand, PM.tor, PM.tnot, PM.vand, PM.vor, PM.vnot, PM.iff, PM.sli, PM.ono, PM.oin, PM.acons, PM.anil, PM.cnil, PM.cval, PM.cvw, PM.lstE, PM.tupE, PM.blt, PM.isi, PM.una, PM.smE, PM.src, PM.rng1, PM.rng2, PM.skip, PM.brkS, PM.cntS, PM.tgN, PM.itemsD, PM.tyD, PM.Ty.sub, PM.addD, PM.addIA, PM.subD, PM.mulD, PM.mulID, PM.fdivD, PM.modD, PM.powD, PM.ltD, PM.leD, PM.gtD, PM.geD, PM.cmpD, PM.eqD, PM.neD, PM.ixD, PM.sliceD, PM.lenD, PM.intD, PM.strD, PM.listD, PM.tupD, PM.joinD, PM.rjustD, PM.negD, List.length_cons, List.length_nil, List.getElem?_cons_zero, List.getElem?_cons_succ, List.set_cons_zero, List.set_cons_succ, List.map_cons, List.map_nil, List.cons_append, List.nil_append, List.append_nil, List.replicate, List.length_map, List.length_append, if_true, if_false, ite_true, ite_false, reduceIte, Bool.false_eq_true, decide_eq_true_eq, Option.map_some, Option.map_none, Option.bind_some, Option.bind_none, Option.some.injEq, Option.join, List.isEmpty_cons, List.isEmpty_nil, List.all_cons, List.all_nil, PM.owned, PM.noLS, PM.noL, PM.noLs, Bool.or_true, Bool.true_or, Bool.or_false, Bool.false_or, Bool.and_true, Bool.true_and, Bool.and_false, Bool.false_and, Bool.not_true, Bool.not_false, List.isEmpty_map, PM.setS, PM.augIxS, PM.isD, PM.isNonD, PM.isBlD, PM.isNotD, PM.sumD, PM.allD, PM.anyD, PM.absD, PM.gcdD, PM.bitsD, PM.maxD, PM.minD, reduceCtorEq, decide_true, decide_false, eq_self, Nat.zero_add, Nat.reduceAdd, Nat.reduceSub, Nat.reduceLT, Nat.reduceEqDiff, Int.reduceAdd, Int.reduceSub, Int.reduceMul, Int.cast_ofNat_Int, Int.reduceBNe, Int.reduceBEq, Int.reduceNe, Nat.reduceBEq, PySem.sizeLine_eq, Nat.reduceLeDiff, Nat.reduceMul, Nat.reducePow, Int.reduceLE, Int.reduceLT, Int.reduceNeg, Int.reducePow, Int.reduceEq, and_self, and_true, true_and, ed, nl2, noW])]
  rw [seq_nx (S1 := T6_law) (ρ1 := [some (false, scr ns), some (true, .lst (l1.map D.int)), some (true, .lst (l2.map D.int)), some (false, W u0), some (false, W v0), some (false, W d), none, none, none, none, none, none, none, none]) (by
    rw [ab]
    unfold T6_law W T
    simp only [PM.tgT, PM.tgs, PM.callE, PM.runF, PM.initE, PM.seqS, PM.asgS, PM.tgS, PM.parS, PM.appS, PM.augS, PM.dropS, PM.retS, PM.retN, PM.retV, PM.ifS, PM.forS, PM.M.thenS, PM.M.bind, PM.M.lift, PM.ret, PM.cst, PM.var, PM.pvar, PM.pk, PM.bin, PM.asB, PM.truth, PM.tru, PM.tand, PM.tor, PM.tnot, PM.vand, PM.vor, PM.vnot, PM.iff, PM.sli, PM.ono, PM.oin, PM.acons, PM.anil, PM.cnil, PM.cval, PM.cvw, PM.lstE, PM.tupE, PM.blt, PM.isi, PM.una, PM.smE, PM.src, PM.rng1, PM.rng2, PM.skip, PM.brkS, PM.cntS, PM.tgN, PM.itemsD, PM.tyD, PM.Ty.sub, PM.addD, PM.addIA, PM.subD, PM.mulD, PM.mulID, PM.fdivD, PM.modD, PM.powD, PM.ltD, PM.leD, PM.gtD, PM.geD, PM.cmpD, PM.eqD, PM.neD, PM.ixD, PM.sliceD, PM.lenD, PM.intD, PM.strD, PM.listD, PM.tupD, PM.joinD, PM.rjustD, PM.negD, List.length_cons, List.length_nil, List.getElem?_cons_zero, List.getElem?_cons_succ, List.set_cons_zero, List.set_cons_succ, List.map_cons, List.map_nil, List.cons_append, List.nil_append, List.append_nil, List.replicate, List.length_map, List.length_append, if_true, if_false, ite_true, ite_false, reduceIte, Bool.false_eq_true, decide_eq_true_eq, Option.map_some, Option.map_none, Option.bind_some, Option.bind_none, Option.some.injEq, Option.join, List.isEmpty_cons, List.isEmpty_nil, List.all_cons, List.all_nil, PM.owned, PM.noLS, PM.noL, PM.noLs, Bool.or_true, Bool.true_or, Bool.or_false, Bool.false_or, Bool.and_true, Bool.true_and, Bool.and_false, Bool.false_and, Bool.not_true, Bool.not_false, List.isEmpty_map, PM.setS, PM.augIxS, PM.isD, PM.isNonD, PM.isBlD, PM.isNotD, PM.sumD, PM.allD, PM.anyD, PM.absD, PM.gcdD, PM.bitsD, PM.maxD, PM.minD, reduceCtorEq, decide_true, decide_false, eq_self, Nat.zero_add, Nat.reduceAdd, Nat.reduceSub, Nat.reduceLT, Nat.reduceEqDiff, Int.reduceAdd, Int.reduceSub, Int.reduceMul, Int.cast_ofNat_Int, Int.reduceBNe, Int.reduceBEq, Int.reduceNe, Nat.reduceBEq, PySem.sizeLine_eq, Nat.reduceLeDiff, Nat.reduceMul, Nat.reducePow, Int.reduceLE, Int.reduceLT, Int.reduceNeg, Int.reducePow, Int.reduceEq, and_self, and_true, true_and, PM.lcE, PM.compF, PM.yes, PM.wipeE, PM.restE, PM.clean, PM.forF, PM.blsD, decide_eq_true_eq, List.all_cons, List.all_nil, id_eq, PM.cut, HT.sIx, L2.atI, L2.ixN, Int.reduceToNat, Nat.min_def, List.drop_succ_cons, List.drop_zero, List.drop_nil, List.take_nil, Nat.reduceSub, List.take_succ_cons, List.take_zero, Option.bind_some, Option.bind_none, and_false, false_and, Nat.reduceLT, PM.revD, PM.rev0D, List.reverse_cons, List.reverse_nil])]
  rw [seq_nx (S1 := T7_law) (ρ1 := [some (false, scr ns), some (true, .lst (l1.map D.int)), some (true, .lst (l2.map D.int)), some (false, W u0), some (false, W v0), some (false, W d), some (false, .int w), none, none, none, none, none, none, none]) (by
    unfold T7_law
    simp only [PM.tgT, PM.tgs, PM.callE, PM.runF, PM.initE, PM.seqS, PM.asgS, PM.tgS, PM.parS, PM.appS, PM.augS, PM.dropS, PM.retS, PM.retN, PM.retV, PM.ifS, PM.forS, PM.M.thenS, PM.M.bind, PM.M.lift, PM.ret, PM.cst, PM.var, PM.pvar, PM.pk, PM.bin, PM.asB, PM.truth, PM.tru, PM.tand, PM.tor, PM.tnot, PM.vand, PM.vor, PM.vnot, PM.iff, PM.sli, PM.ono, PM.oin, PM.acons, PM.anil, PM.cnil, PM.cval, PM.cvw, PM.lstE, PM.tupE, PM.blt, PM.isi, PM.una, PM.smE, PM.src, PM.rng1, PM.rng2, PM.skip, PM.brkS, PM.cntS, PM.tgN, PM.itemsD, PM.tyD, PM.Ty.sub, PM.addD, PM.addIA, PM.subD, PM.mulD, PM.mulID, PM.fdivD, PM.modD, PM.powD, PM.ltD, PM.leD, PM.gtD, PM.geD, PM.cmpD, PM.eqD, PM.neD, PM.ixD, PM.sliceD, PM.lenD, PM.intD, PM.strD, PM.listD, PM.tupD, PM.joinD, PM.rjustD, PM.negD, List.length_cons, List.length_nil, List.getElem?_cons_zero, List.getElem?_cons_succ, List.set_cons_zero, List.set_cons_succ, List.map_cons, List.map_nil, List.cons_append, List.nil_append, List.append_nil, List.replicate, List.length_map, List.length_append, if_true, if_false, ite_true, ite_false, reduceIte, Bool.false_eq_true, decide_eq_true_eq, Option.map_some, Option.map_none, Option.bind_some, Option.bind_none, Option.some.injEq, Option.join, List.isEmpty_cons, List.isEmpty_nil, List.all_cons, List.all_nil, PM.owned, PM.noLS, PM.noL, PM.noLs, Bool.or_true, Bool.true_or, Bool.or_false, Bool.false_or, Bool.and_true, Bool.true_and, Bool.and_false, Bool.false_and, Bool.not_true, Bool.not_false, List.isEmpty_map, PM.setS, PM.augIxS, PM.isD, PM.isNonD, PM.isBlD, PM.isNotD, PM.sumD, PM.allD, PM.anyD, PM.absD, PM.gcdD, PM.bitsD, PM.maxD, PM.minD, reduceCtorEq, decide_true, decide_false, eq_self, Nat.zero_add, Nat.reduceAdd, Nat.reduceSub, Nat.reduceLT, Nat.reduceEqDiff, Int.reduceAdd, Int.reduceSub, Int.reduceMul, Int.cast_ofNat_Int, Int.reduceBNe, Int.reduceBEq, Int.reduceNe, Nat.reduceBEq, PySem.sizeLine_eq, Nat.reduceLeDiff, Nat.reduceMul, Nat.reducePow, Int.reduceLE, Int.reduceLT, Int.reduceNeg, Int.reducePow, Int.reduceEq, and_self, and_true, true_and, p4, nl2, noW])]
  rw [seq_nx t8]
  have t9 : ∃ v, Few v ∧ T9_law [some (false, scr ns), some (true, .lst (l1.map D.int)), some (true, .lst (l2.map D.int)), some (false, W u), some (false, W v0), some (false, W d'), some (false, .int w), x7, x8, x9, none, none, none, none] = .nx [some (false, scr ns), some (true, .lst (l1.map D.int)), some (true, .lst (l2.map D.int)), some (false, W u), some (false, W v), some (false, W d'), some (false, .int w), x7, x8, x9, none, none, none, none] := by
    by_cases c : w = 3
    · refine ⟨0, few_0, ?_⟩
      unfold T9_law
      simp only [PM.tgT, PM.tgs, PM.callE, PM.runF, PM.initE, PM.seqS, PM.asgS, PM.tgS, PM.parS, PM.appS, PM.augS, PM.dropS, PM.retS, PM.retN, PM.retV, PM.ifS, PM.forS, PM.M.thenS, PM.M.bind, PM.M.lift, PM.ret, PM.cst, PM.var, PM.pvar, PM.pk, PM.bin, PM.asB, PM.truth, PM.tru, PM.tand, PM.tor, PM.tnot, PM.vand, PM.vor, PM.vnot, PM.iff, PM.sli, PM.ono, PM.oin, PM.acons, PM.anil, PM.cnil, PM.cval, PM.cvw, PM.lstE, PM.tupE, PM.blt, PM.isi, PM.una, PM.smE, PM.src, PM.rng1, PM.rng2, PM.skip, PM.brkS, PM.cntS, PM.tgN, PM.itemsD, PM.tyD, PM.Ty.sub, PM.addD, PM.addIA, PM.subD, PM.mulD, PM.mulID, PM.fdivD, PM.modD, PM.powD, PM.ltD, PM.leD, PM.gtD, PM.geD, PM.cmpD, PM.eqD, PM.neD, PM.ixD, PM.sliceD, PM.lenD, PM.intD, PM.strD, PM.listD, PM.tupD, PM.joinD, PM.rjustD, PM.negD, List.length_cons, List.length_nil, List.getElem?_cons_zero, List.getElem?_cons_succ, List.set_cons_zero, List.set_cons_succ, List.map_cons, List.map_nil, List.cons_append, List.nil_append, List.append_nil, List.replicate, List.length_map, List.length_append, if_true, if_false, ite_true, ite_false, reduceIte, Bool.false_eq_true, decide_eq_true_eq, Option.map_some, Option.map_none, Option.bind_some, Option.bind_none, Option.some.injEq, Option.join, List.isEmpty_cons, List.isEmpty_nil, List.all_cons, List.all_nil, PM.owned, PM.noLS, PM.noL, PM.noLs, Bool.or_true, Bool.true_or, Bool.or_false, Bool.false_or, Bool.and_true, Bool.true_and, Bool.and_false, Bool.false_and, Bool.not_true, Bool.not_false, List.isEmpty_map, PM.setS, PM.augIxS, PM.isD, PM.isNonD, PM.isBlD, PM.isNotD, PM.sumD, PM.allD, PM.anyD, PM.absD, PM.gcdD, PM.bitsD, PM.maxD, PM.minD, reduceCtorEq, decide_true, decide_false, eq_self, Nat.zero_add, Nat.reduceAdd, Nat.reduceSub, Nat.reduceLT, Nat.reduceEqDiff, Int.reduceAdd, Int.reduceSub, Int.reduceMul, Int.cast_ofNat_Int, Int.reduceBNe, Int.reduceBEq, Int.reduceNe, Nat.reduceBEq, PySem.sizeLine_eq, Nat.reduceLeDiff, Nat.reduceMul, Nat.reducePow, Int.reduceLE, Int.reduceLT, Int.reduceNeg, Int.reducePow, Int.reduceEq, and_self, and_true, true_and, eqv_int, decide_eq_true c]
      rfl
    · refine ⟨v0, fv, ?_⟩
      unfold T9_law
      simp only [PM.tgT, PM.tgs, PM.callE, PM.runF, PM.initE, PM.seqS, PM.asgS, PM.tgS, PM.parS, PM.appS, PM.augS, PM.dropS, PM.retS, PM.retN, PM.retV, PM.ifS, PM.forS, PM.M.thenS, PM.M.bind, PM.M.lift, PM.ret, PM.cst, PM.var, PM.pvar, PM.pk, PM.bin, PM.asB, PM.truth, PM.tru, PM.tand, PM.tor, PM.tnot, PM.vand, PM.vor, PM.vnot, PM.iff, PM.sli, PM.ono, PM.oin, PM.acons, PM.anil, PM.cnil, PM.cval, PM.cvw, PM.lstE, PM.tupE, PM.blt, PM.isi, PM.una, PM.smE, PM.src, PM.rng1, PM.rng2, PM.skip, PM.brkS, PM.cntS, PM.tgN, PM.itemsD, PM.tyD, PM.Ty.sub, PM.addD, PM.addIA, PM.subD, PM.mulD, PM.mulID, PM.fdivD, PM.modD, PM.powD, PM.ltD, PM.leD, PM.gtD, PM.geD, PM.cmpD, PM.eqD, PM.neD, PM.ixD, PM.sliceD, PM.lenD, PM.intD, PM.strD, PM.listD, PM.tupD, PM.joinD, PM.rjustD, PM.negD, List.length_cons, List.length_nil, List.getElem?_cons_zero, List.getElem?_cons_succ, List.set_cons_zero, List.set_cons_succ, List.map_cons, List.map_nil, List.cons_append, List.nil_append, List.append_nil, List.replicate, List.length_map, List.length_append, if_true, if_false, ite_true, ite_false, reduceIte, Bool.false_eq_true, decide_eq_true_eq, Option.map_some, Option.map_none, Option.bind_some, Option.bind_none, Option.some.injEq, Option.join, List.isEmpty_cons, List.isEmpty_nil, List.all_cons, List.all_nil, PM.owned, PM.noLS, PM.noL, PM.noLs, Bool.or_true, Bool.true_or, Bool.or_false, Bool.false_or, Bool.and_true, Bool.true_and, Bool.and_false, Bool.false_and, Bool.not_true, Bool.not_false, List.isEmpty_map, PM.setS, PM.augIxS, PM.isD, PM.isNonD, PM.isBlD, PM.isNotD, PM.sumD, PM.allD, PM.anyD, PM.absD, PM.gcdD, PM.bitsD, PM.maxD, PM.minD, reduceCtorEq, decide_true, decide_false, eq_self, Nat.zero_add, Nat.reduceAdd, Nat.reduceSub, Nat.reduceLT, Nat.reduceEqDiff, Int.reduceAdd, Int.reduceSub, Int.reduceMul, Int.cast_ofNat_Int, Int.reduceBNe, Int.reduceBEq, Int.reduceNe, Nat.reduceBEq, PySem.sizeLine_eq, Nat.reduceLeDiff, Nat.reduceMul, Nat.reducePow, Int.reduceLE, Int.reduceLT, Int.reduceNeg, Int.reducePow, Int.reduceEq, and_self, and_true, true_and, eqv_int, decide_eq_false c]
  obtain ⟨v, fv', t9⟩ := t9
  rw [seq_nx t9]
  have t10 : ∃ d, Dd d ∧ T10_law [some (false, scr ns), some (true, .lst (l1.map D.int)), some (true, .lst (l2.map D.int)), some (false, W u), some (false, W v), some (false, W d'), some (false, .int w), x7, x8, x9, none, none, none, none] = .nx [some (false, scr ns), some (true, .lst (l1.map D.int)), some (true, .lst (l2.map D.int)), some (false, W u), some (false, W v), some (false, W d), some (false, .int w), x7, x8, x9, none, none, none, none] := by
    by_cases c : w = 4
    · refine ⟨0, few_0.dd Rat.le_refl, ?_⟩
      unfold T10_law
      simp only [PM.tgT, PM.tgs, PM.callE, PM.runF, PM.initE, PM.seqS, PM.asgS, PM.tgS, PM.parS, PM.appS, PM.augS, PM.dropS, PM.retS, PM.retN, PM.retV, PM.ifS, PM.forS, PM.M.thenS, PM.M.bind, PM.M.lift, PM.ret, PM.cst, PM.var, PM.pvar, PM.pk, PM.bin, PM.asB, PM.truth, PM.tru, PM.tand, PM.tor, PM.tnot, PM.vand, PM.vor, PM.vnot, PM.iff, PM.sli, PM.ono, PM.oin, PM.acons, PM.anil, PM.cnil, PM.cval, PM.cvw, PM.lstE, PM.tupE, PM.blt, PM.isi, PM.una, PM.smE, PM.src, PM.rng1, PM.rng2, PM.skip, PM.brkS, PM.cntS, PM.tgN, PM.itemsD, PM.tyD, PM.Ty.sub, PM.addD, PM.addIA, PM.subD, PM.mulD, PM.mulID, PM.fdivD, PM.modD, PM.powD, PM.ltD, PM.leD, PM.gtD, PM.geD, PM.cmpD, PM.eqD, PM.neD, PM.ixD, PM.sliceD, PM.lenD, PM.intD, PM.strD, PM.listD, PM.tupD, PM.joinD, PM.rjustD, PM.negD, List.length_cons, List.length_nil, List.getElem?_cons_zero, List.getElem?_cons_succ, List.set_cons_zero, List.set_cons_succ, List.map_cons, List.map_nil, List.cons_append, List.nil_append, List.append_nil, List.replicate, List.length_map, List.length_append, if_true, if_false, ite_true, ite_false, reduceIte, Bool.false_eq_true, decide_eq_true_eq, Option.map_some, Option.map_none, Option.bind_some, Option.bind_none, Option.some.injEq, Option.join, List.isEmpty_cons, List.isEmpty_nil, List.all_cons, List.all_nil, PM.owned, PM.noLS, PM.noL, PM.noLs, Bool.or_true, Bool.true_or, Bool.or_false, Bool.false_or, Bool.and_true, Bool.true_and, Bool.and_false, Bool.false_and, Bool.not_true, Bool.not_false, List.isEmpty_map, PM.setS, PM.augIxS, PM.isD, PM.isNonD, PM.isBlD, PM.isNotD, PM.sumD, PM.allD, PM.anyD, PM.absD, PM.gcdD, PM.bitsD, PM.maxD, PM.minD, reduceCtorEq, decide_true, decide_false, eq_self, Nat.zero_add, Nat.reduceAdd, Nat.reduceSub, Nat.reduceLT, Nat.reduceEqDiff, Int.reduceAdd, Int.reduceSub, Int.reduceMul, Int.cast_ofNat_Int, Int.reduceBNe, Int.reduceBEq, Int.reduceNe, Nat.reduceBEq, PySem.sizeLine_eq, Nat.reduceLeDiff, Nat.reduceMul, Nat.reducePow, Int.reduceLE, Int.reduceLT, Int.reduceNeg, Int.reducePow, Int.reduceEq, and_self, and_true, true_and, eqv_int, decide_eq_true c]
      rfl
    · refine ⟨d', hd', ?_⟩
      unfold T10_law
      simp only [PM.tgT, PM.tgs, PM.callE, PM.runF, PM.initE, PM.seqS, PM.asgS, PM.tgS, PM.parS, PM.appS, PM.augS, PM.dropS, PM.retS, PM.retN, PM.retV, PM.ifS, PM.forS, PM.M.thenS, PM.M.bind, PM.M.lift, PM.ret, PM.cst, PM.var, PM.pvar, PM.pk, PM.bin, PM.asB, PM.truth, PM.tru, PM.tand, PM.tor, PM.tnot, PM.vand, PM.vor, PM.vnot, PM.iff, PM.sli, PM.ono, PM.oin, PM.acons, PM.anil, PM.cnil, PM.cval, PM.cvw, PM.lstE, PM.tupE, PM.blt, PM.isi, PM.una, PM.smE, PM.src, PM.rng1, PM.rng2, PM.skip, PM.brkS, PM.cntS, PM.tgN, PM.itemsD, PM.tyD, PM.Ty.sub, PM.addD, PM.addIA, PM.subD, PM.mulD, PM.mulID, PM.fdivD, PM.modD, PM.powD, PM.ltD, PM.leD, PM.gtD, PM.geD, PM.cmpD, PM.eqD, PM.neD, PM.ixD, PM.sliceD, PM.lenD, PM.intD, PM.strD, PM.listD, PM.tupD, PM.joinD, PM.rjustD, PM.negD, List.length_cons, List.length_nil, List.getElem?_cons_zero, List.getElem?_cons_succ, List.set_cons_zero, List.set_cons_succ, List.map_cons, List.map_nil, List.cons_append, List.nil_append, List.append_nil, List.replicate, List.length_map, List.length_append, if_true, if_false, ite_true, ite_false, reduceIte, Bool.false_eq_true, decide_eq_true_eq, Option.map_some, Option.map_none, Option.bind_some, Option.bind_none, Option.some.injEq, Option.join, List.isEmpty_cons, List.isEmpty_nil, List.all_cons, List.all_nil, PM.owned, PM.noLS, PM.noL, PM.noLs, Bool.or_true, Bool.true_or, Bool.or_false, Bool.false_or, Bool.and_true, Bool.true_and, Bool.and_false, Bool.false_and, Bool.not_true, Bool.not_false, List.isEmpty_map, PM.setS, PM.augIxS, PM.isD, PM.isNonD, PM.isBlD, PM.isNotD, PM.sumD, PM.allD, PM.anyD, PM.absD, PM.gcdD, PM.bitsD, PM.maxD, PM.minD, reduceCtorEq, decide_true, decide_false, eq_self, Nat.zero_add, Nat.reduceAdd, Nat.reduceSub, Nat.reduceLT, Nat.reduceEqDiff, Int.reduceAdd, Int.reduceSub, Int.reduceMul, Int.cast_ofNat_Int, Int.reduceBNe, Int.reduceBEq, Int.reduceNe, Nat.reduceBEq, PySem.sizeLine_eq, Nat.reduceLeDiff, Nat.reduceMul, Nat.reducePow, Int.reduceLE, Int.reduceLT, Int.reduceNeg, Int.reducePow, Int.reduceEq, and_self, and_true, true_and, eqv_int, decide_eq_false c]
  obtain ⟨dd, hdd, t10⟩ := t10
  rw [seq_nx t10]
  have g := good_mk hu fv' hdd
  have h1 := holds_ok g
  have h2 := holds_ok g.negu
  have h3 := holds_ok g.negv
  have h4 := holds_ok (good_mk few_0.uu fv' hdd)
  rw [W0] at h4
  rw [← negT] at h2 h3
  rw [seq_nx (S1 := T11_law) (ρ1 := [some (false, scr ns), some (true, .lst (l1.map D.int)), some (true, .lst (l2.map D.int)), some (false, W u), some (false, W v), some (false, W dd), some (false, .int w), x7, x8, x9, none, none, none, none]) (by
    unfold T11_law
    unfold W T at h1 h2 h3 ⊢
    simp only [PM.tgT, PM.tgs, PM.callE, PM.runF, PM.initE, PM.seqS, PM.asgS, PM.tgS, PM.parS, PM.appS, PM.augS, PM.dropS, PM.retS, PM.retN, PM.retV, PM.ifS, PM.forS, PM.M.thenS, PM.M.bind, PM.M.lift, PM.ret, PM.cst, PM.var, PM.pvar, PM.pk, PM.bin, PM.asB, PM.truth, PM.tru, PM.tand, PM.tor, PM.tnot, PM.vand, PM.vor, PM.vnot, PM.iff, PM.sli, PM.ono, PM.oin, PM.acons, PM.anil, PM.cnil, PM.cval, PM.cvw, PM.lstE, PM.tupE, PM.blt, PM.isi, PM.una, PM.smE, PM.src, PM.rng1, PM.rng2, PM.skip, PM.brkS, PM.cntS, PM.tgN, PM.itemsD, PM.tyD, PM.Ty.sub, PM.addD, PM.addIA, PM.subD, PM.mulD, PM.mulID, PM.fdivD, PM.modD, PM.powD, PM.ltD, PM.leD, PM.gtD, PM.geD, PM.cmpD, PM.eqD, PM.neD, PM.ixD, PM.sliceD, PM.lenD, PM.intD, PM.strD, PM.listD, PM.tupD, PM.joinD, PM.rjustD, PM.negD, List.length_cons, List.length_nil, List.getElem?_cons_zero, List.getElem?_cons_succ, List.set_cons_zero, List.set_cons_succ, List.map_cons, List.map_nil, List.cons_append, List.nil_append, List.append_nil, List.replicate, List.length_map, List.length_append, if_true, if_false, ite_true, ite_false, reduceIte, Bool.false_eq_true, decide_eq_true_eq, Option.map_some, Option.map_none, Option.bind_some, Option.bind_none, Option.some.injEq, Option.join, List.isEmpty_cons, List.isEmpty_nil, List.all_cons, List.all_nil, PM.owned, PM.noLS, PM.noL, PM.noLs, Bool.or_true, Bool.true_or, Bool.or_false, Bool.false_or, Bool.and_true, Bool.true_and, Bool.and_false, Bool.false_and, Bool.not_true, Bool.not_false, List.isEmpty_map, PM.setS, PM.augIxS, PM.isD, PM.isNonD, PM.isBlD, PM.isNotD, PM.sumD, PM.allD, PM.anyD, PM.absD, PM.gcdD, PM.bitsD, PM.maxD, PM.minD, reduceCtorEq, decide_true, decide_false, eq_self, Nat.zero_add, Nat.reduceAdd, Nat.reduceSub, Nat.reduceLT, Nat.reduceEqDiff, Int.reduceAdd, Int.reduceSub, Int.reduceMul, Int.cast_ofNat_Int, Int.reduceBNe, Int.reduceBEq, Int.reduceNe, Nat.reduceBEq, PySem.sizeLine_eq, Nat.reduceLeDiff, Nat.reduceMul, Nat.reducePow, Int.reduceLE, Int.reduceLT, Int.reduceNeg, Int.reducePow, Int.reduceEq, and_self, and_true, true_and, PM.lcE, PM.compF, PM.yes, PM.wipeE, PM.restE, PM.clean, PM.forF, PM.blsD, decide_eq_true_eq, List.all_cons, List.all_nil, id_eq, PM.cut, HT.sIx, L2.atI, L2.ixN, Int.reduceToNat, Nat.min_def, List.drop_succ_cons, List.drop_zero, List.drop_nil, List.take_nil, Nat.reduceSub, List.take_succ_cons, List.take_zero, Option.bind_some, Option.bind_none, and_false, false_and, Nat.reduceLT, PM.revD, PM.rev0D, List.reverse_cons, List.reverse_nil, h1, h2, h3])]
  rw [seq_nx (S1 := T12_law) (ρ1 := [some (false, scr ns), some (true, .lst (l1.map D.int)), some (true, .lst (l2.map D.int)), some (false, W u), some (false, W v), some (false, W dd), some (false, .int w), x7, x8, x9, some (false, .int 100000000), none, none, none]) (by
    unfold T12_law
    simp only [PM.tgT, PM.tgs, PM.callE, PM.runF, PM.initE, PM.seqS, PM.asgS, PM.tgS, PM.parS, PM.appS, PM.augS, PM.dropS, PM.retS, PM.retN, PM.retV, PM.ifS, PM.forS, PM.M.thenS, PM.M.bind, PM.M.lift, PM.ret, PM.cst, PM.var, PM.pvar, PM.pk, PM.bin, PM.asB, PM.truth, PM.tru, PM.tand, PM.tor, PM.tnot, PM.vand, PM.vor, PM.vnot, PM.iff, PM.sli, PM.ono, PM.oin, PM.acons, PM.anil, PM.cnil, PM.cval, PM.cvw, PM.lstE, PM.tupE, PM.blt, PM.isi, PM.una, PM.smE, PM.src, PM.rng1, PM.rng2, PM.skip, PM.brkS, PM.cntS, PM.tgN, PM.itemsD, PM.tyD, PM.Ty.sub, PM.addD, PM.addIA, PM.subD, PM.mulD, PM.mulID, PM.fdivD, PM.modD, PM.powD, PM.ltD, PM.leD, PM.gtD, PM.geD, PM.cmpD, PM.eqD, PM.neD, PM.ixD, PM.sliceD, PM.lenD, PM.intD, PM.strD, PM.listD, PM.tupD, PM.joinD, PM.rjustD, PM.negD, List.length_cons, List.length_nil, List.getElem?_cons_zero, List.getElem?_cons_succ, List.set_cons_zero, List.set_cons_succ, List.map_cons, List.map_nil, List.cons_append, List.nil_append, List.append_nil, List.replicate, List.length_map, List.length_append, if_true, if_false, ite_true, ite_false, reduceIte, Bool.false_eq_true, decide_eq_true_eq, Option.map_some, Option.map_none, Option.bind_some, Option.bind_none, Option.some.injEq, Option.join, List.isEmpty_cons, List.isEmpty_nil, List.all_cons, List.all_nil, PM.owned, PM.noLS, PM.noL, PM.noLs, Bool.or_true, Bool.true_or, Bool.or_false, Bool.false_or, Bool.and_true, Bool.true_and, Bool.and_false, Bool.false_and, Bool.not_true, Bool.not_false, List.isEmpty_map, PM.setS, PM.augIxS, PM.isD, PM.isNonD, PM.isBlD, PM.isNotD, PM.sumD, PM.allD, PM.anyD, PM.absD, PM.gcdD, PM.bitsD, PM.maxD, PM.minD, reduceCtorEq, decide_true, decide_false, eq_self, Nat.zero_add, Nat.reduceAdd, Nat.reduceSub, Nat.reduceLT, Nat.reduceEqDiff, Int.reduceAdd, Int.reduceSub, Int.reduceMul, Int.cast_ofNat_Int, Int.reduceBNe, Int.reduceBEq, Int.reduceNe, Nat.reduceBEq, PySem.sizeLine_eq, Nat.reduceLeDiff, Nat.reduceMul, Nat.reducePow, Int.reduceLE, Int.reduceLT, Int.reduceNeg, Int.reducePow, Int.reduceEq, and_self, and_true, true_and, Int.reduceToNat, h10])]
  have t13 : ∃ fine : Int, 0 < fine ∧ fine.natAbs < 2 ^ 84 ∧ T13_law [some (false, scr ns), some (true, .lst (l1.map D.int)), some (true, .lst (l2.map D.int)), some (false, W u), some (false, W v), some (false, W dd), some (false, .int w), x7, x8, x9, some (false, .int 100000000), none, none, none] = .nx [some (false, scr ns), some (true, .lst (l1.map D.int)), some (true, .lst (l2.map D.int)), some (false, W u), some (false, W v), some (false, W dd), some (false, .int w), x7, x8, x9, some (false, .int fine), none, none, none] := by
    by_cases c : b6 = 1
    · refine ⟨10000000000000000000000000, by decide, by decide, ?_⟩
      unfold T13_law
      simp only [PM.tgT, PM.tgs, PM.callE, PM.runF, PM.initE, PM.seqS, PM.asgS, PM.tgS, PM.parS, PM.appS, PM.augS, PM.dropS, PM.retS, PM.retN, PM.retV, PM.ifS, PM.forS, PM.M.thenS, PM.M.bind, PM.M.lift, PM.ret, PM.cst, PM.var, PM.pvar, PM.pk, PM.bin, PM.asB, PM.truth, PM.tru, PM.tand, PM.tor, PM.tnot, PM.vand, PM.vor, PM.vnot, PM.iff, PM.sli, PM.ono, PM.oin, PM.acons, PM.anil, PM.cnil, PM.cval, PM.cvw, PM.lstE, PM.tupE, PM.blt, PM.isi, PM.una, PM.smE, PM.src, PM.rng1, PM.rng2, PM.skip, PM.brkS, PM.cntS, PM.tgN, PM.itemsD, PM.tyD, PM.Ty.sub, PM.addD, PM.addIA, PM.subD, PM.mulD, PM.mulID, PM.fdivD, PM.modD, PM.powD, PM.ltD, PM.leD, PM.gtD, PM.geD, PM.cmpD, PM.eqD, PM.neD, PM.ixD, PM.sliceD, PM.lenD, PM.intD, PM.strD, PM.listD, PM.tupD, PM.joinD, PM.rjustD, PM.negD, List.length_cons, List.length_nil, List.getElem?_cons_zero, List.getElem?_cons_succ, List.set_cons_zero, List.set_cons_succ, List.map_cons, List.map_nil, List.cons_append, List.nil_append, List.append_nil, List.replicate, List.length_map, List.length_append, if_true, if_false, ite_true, ite_false, reduceIte, Bool.false_eq_true, decide_eq_true_eq, Option.map_some, Option.map_none, Option.bind_some, Option.bind_none, Option.some.injEq, Option.join, List.isEmpty_cons, List.isEmpty_nil, List.all_cons, List.all_nil, PM.owned, PM.noLS, PM.noL, PM.noLs, Bool.or_true, Bool.true_or, Bool.or_false, Bool.false_or, Bool.and_true, Bool.true_and, Bool.and_false, Bool.false_and, Bool.not_true, Bool.not_false, List.isEmpty_map, PM.setS, PM.augIxS, PM.isD, PM.isNonD, PM.isBlD, PM.isNotD, PM.sumD, PM.allD, PM.anyD, PM.absD, PM.gcdD, PM.bitsD, PM.maxD, PM.minD, reduceCtorEq, decide_true, decide_false, eq_self, Nat.zero_add, Nat.reduceAdd, Nat.reduceSub, Nat.reduceLT, Nat.reduceEqDiff, Int.reduceAdd, Int.reduceSub, Int.reduceMul, Int.cast_ofNat_Int, Int.reduceBNe, Int.reduceBEq, Int.reduceNe, Nat.reduceBEq, PySem.sizeLine_eq, Nat.reduceLeDiff, Nat.reduceMul, Nat.reducePow, Int.reduceLE, Int.reduceLT, Int.reduceNeg, Int.reducePow, Int.reduceEq, and_self, and_true, true_and, eqv_int, p6, nl2, decide_eq_true c, Int.reduceToNat, h10]
    · refine ⟨100000000, by decide, by decide, ?_⟩
      unfold T13_law
      simp only [PM.tgT, PM.tgs, PM.callE, PM.runF, PM.initE, PM.seqS, PM.asgS, PM.tgS, PM.parS, PM.appS, PM.augS, PM.dropS, PM.retS, PM.retN, PM.retV, PM.ifS, PM.forS, PM.M.thenS, PM.M.bind, PM.M.lift, PM.ret, PM.cst, PM.var, PM.pvar, PM.pk, PM.bin, PM.asB, PM.truth, PM.tru, PM.tand, PM.tor, PM.tnot, PM.vand, PM.vor, PM.vnot, PM.iff, PM.sli, PM.ono, PM.oin, PM.acons, PM.anil, PM.cnil, PM.cval, PM.cvw, PM.lstE, PM.tupE, PM.blt, PM.isi, PM.una, PM.smE, PM.src, PM.rng1, PM.rng2, PM.skip, PM.brkS, PM.cntS, PM.tgN, PM.itemsD, PM.tyD, PM.Ty.sub, PM.addD, PM.addIA, PM.subD, PM.mulD, PM.mulID, PM.fdivD, PM.modD, PM.powD, PM.ltD, PM.leD, PM.gtD, PM.geD, PM.cmpD, PM.eqD, PM.neD, PM.ixD, PM.sliceD, PM.lenD, PM.intD, PM.strD, PM.listD, PM.tupD, PM.joinD, PM.rjustD, PM.negD, List.length_cons, List.length_nil, List.getElem?_cons_zero, List.getElem?_cons_succ, List.set_cons_zero, List.set_cons_succ, List.map_cons, List.map_nil, List.cons_append, List.nil_append, List.append_nil, List.replicate, List.length_map, List.length_append, if_true, if_false, ite_true, ite_false, reduceIte, Bool.false_eq_true, decide_eq_true_eq, Option.map_some, Option.map_none, Option.bind_some, Option.bind_none, Option.some.injEq, Option.join, List.isEmpty_cons, List.isEmpty_nil, List.all_cons, List.all_nil, PM.owned, PM.noLS, PM.noL, PM.noLs, Bool.or_true, Bool.true_or, Bool.or_false, Bool.false_or, Bool.and_true, Bool.true_and, Bool.and_false, Bool.false_and, Bool.not_true, Bool.not_false, List.isEmpty_map, PM.setS, PM.augIxS, PM.isD, PM.isNonD, PM.isBlD, PM.isNotD, PM.sumD, PM.allD, PM.anyD, PM.absD, PM.gcdD, PM.bitsD, PM.maxD, PM.minD, reduceCtorEq, decide_true, decide_false, eq_self, Nat.zero_add, Nat.reduceAdd, Nat.reduceSub, Nat.reduceLT, Nat.reduceEqDiff, Int.reduceAdd, Int.reduceSub, Int.reduceMul, Int.cast_ofNat_Int, Int.reduceBNe, Int.reduceBEq, Int.reduceNe, Nat.reduceBEq, PySem.sizeLine_eq, Nat.reduceLeDiff, Nat.reduceMul, Nat.reducePow, Int.reduceLE, Int.reduceLT, Int.reduceNeg, Int.reducePow, Int.reduceEq, and_self, and_true, true_and, eqv_int, p6, nl2, decide_eq_false c]
  obtain ⟨fine, f0, f1, t13⟩ := t13
  rw [seq_nx t13]
  have bd := hdd.b
  have fdd := bs_fr dd
  have n0 := num_nn hdd.n
  have pd : (0 : Int) < dd.den := by have := dd.den_pos; omega
  have m1 : mulOk dd.num fine = true := mul_nb fdd.a f1 (by omega)
  have m2 : mulOk (dd.num * fine) fine = true := mul_nb (nb_mul fdd.a f1) f1 (by omega)
  have ld : (dd.den : Int).natAbs.log2 < 9000 := nn_log fdd.b (by omega)
  have kn : nb 330 (dd.num * fine * fine) := nb_up (nb_mul (nb_mul fdd.a f1) f1) (by omega)
  have q0 : 0 ≤ dd.num * fine * fine / dd.den := Int.ediv_nonneg (Int.mul_nonneg (Int.mul_nonneg n0 (by omega)) (by omega)) (by omega)
  have kq : nb 330 (dd.num * fine * fine / dd.den) := by
    have := Int.natAbs_ediv_le_natAbs (dd.num * fine * fine) dd.den
    unfold nb at *
    omega
  have e330 : (2 : Int) ^ 165 * 2 ^ 165 = ((2 ^ 330 : Nat) : Int) := by decide
  have kq' : dd.num * fine * fine / dd.den < 2 ^ 165 * 2 ^ 165 := by
    unfold nb at kq
    rw [e330]
    omega
  obtain ⟨near, r0, r1, r2, er⟩ := root_law q0 (Int.lt_trans kq' (by decide))
  have rn := sq_lt r0 (Int.lt_of_le_of_lt r1 kq') (Int.le_of_lt (p2p 165))
  have hn : nb 166 near := by
    unfold nb
    have := p2abs 165
    omega
  rw [seq_nx (S1 := T14_law) (ρ1 := [some (false, scr ns), some (true, .lst (l1.map D.int)), some (true, .lst (l2.map D.int)), some (false, W u), some (false, W v), some (false, W dd), some (false, .int w), x7, x8, x9, some (false, .int fine), some (false, .int near), none, none]) (by
    unfold T14_law W T
    simp only [PM.tgT, PM.tgs, PM.callE, PM.runF, PM.initE, PM.seqS, PM.asgS, PM.tgS, PM.parS, PM.appS, PM.augS, PM.dropS, PM.retS, PM.retN, PM.retV, PM.ifS, PM.forS, PM.M.thenS, PM.M.bind, PM.M.lift, PM.ret, PM.cst, PM.var, PM.pvar, PM.pk, PM.bin, PM.asB, PM.truth, PM.tru, PM.tand, PM.tor, PM.tnot, PM.vand, PM.vor, PM.vnot, PM.iff, PM.sli, PM.ono, PM.oin, PM.acons, PM.anil, PM.cnil, PM.cval, PM.cvw, PM.lstE, PM.tupE, PM.blt, PM.isi, PM.una, PM.smE, PM.src, PM.rng1, PM.rng2, PM.skip, PM.brkS, PM.cntS, PM.tgN, PM.itemsD, PM.tyD, PM.Ty.sub, PM.addD, PM.addIA, PM.subD, PM.mulD, PM.mulID, PM.fdivD, PM.modD, PM.powD, PM.ltD, PM.leD, PM.gtD, PM.geD, PM.cmpD, PM.eqD, PM.neD, PM.ixD, PM.sliceD, PM.lenD, PM.intD, PM.strD, PM.listD, PM.tupD, PM.joinD, PM.rjustD, PM.negD, List.length_cons, List.length_nil, List.getElem?_cons_zero, List.getElem?_cons_succ, List.set_cons_zero, List.set_cons_succ, List.map_cons, List.map_nil, List.cons_append, List.nil_append, List.append_nil, List.replicate, List.length_map, List.length_append, if_true, if_false, ite_true, ite_false, reduceIte, Bool.false_eq_true, decide_eq_true_eq, Option.map_some, Option.map_none, Option.bind_some, Option.bind_none, Option.some.injEq, Option.join, List.isEmpty_cons, List.isEmpty_nil, List.all_cons, List.all_nil, PM.owned, PM.noLS, PM.noL, PM.noLs, Bool.or_true, Bool.true_or, Bool.or_false, Bool.false_or, Bool.and_true, Bool.true_and, Bool.and_false, Bool.false_and, Bool.not_true, Bool.not_false, List.isEmpty_map, PM.setS, PM.augIxS, PM.isD, PM.isNonD, PM.isBlD, PM.isNotD, PM.sumD, PM.allD, PM.anyD, PM.absD, PM.gcdD, PM.bitsD, PM.maxD, PM.minD, reduceCtorEq, decide_true, decide_false, eq_self, Nat.zero_add, Nat.reduceAdd, Nat.reduceSub, Nat.reduceLT, Nat.reduceEqDiff, Int.reduceAdd, Int.reduceSub, Int.reduceMul, Int.cast_ofNat_Int, Int.reduceBNe, Int.reduceBEq, Int.reduceNe, Nat.reduceBEq, PySem.sizeLine_eq, Nat.reduceLeDiff, Nat.reduceMul, Nat.reducePow, Int.reduceLE, Int.reduceLT, Int.reduceNeg, Int.reducePow, Int.reduceEq, and_self, and_true, true_and, PM.lcE, PM.compF, PM.yes, PM.wipeE, PM.restE, PM.clean, PM.forF, PM.blsD, decide_eq_true_eq, List.all_cons, List.all_nil, id_eq, PM.cut, HT.sIx, L2.atI, L2.ixN, Int.reduceToNat, Nat.min_def, List.drop_succ_cons, List.drop_zero, List.drop_nil, List.take_nil, Nat.reduceSub, List.take_succ_cons, List.take_zero, Option.bind_some, Option.bind_none, and_false, false_and, Nat.reduceLT, PM.revD, PM.rev0D, List.reverse_cons, List.reverse_nil, m1, m2, pd, ld, er])]
  have st := fun (j : Int) (hj : nb 1 j) (x : Option Slot) => step_r g f0 f1 hn hj (some (false, scr ns)) (some (true, .lst (l1.map D.int))) (some (true, .lst (l2.map D.int))) (some (false, .int w)) x7 x8 x9 x
  obtain ⟨y0, o0⟩ := st 0 (by unfold nb; decide) none
  obtain ⟨y1, o1⟩ := st 1 (by unfold nb; decide) y0
  obtain ⟨y2, o2⟩ := st (-1) (by unfold nb; decide) y1
  rw [seq_nx (S1 := T15_law) (ρ1 := [some (false, scr ns), some (true, .lst (l1.map D.int)), some (true, .lst (l2.map D.int)), some (false, W u), some (false, W v), some (false, W dd), some (false, .int w), x7, x8, x9, some (false, .int fine), some (false, .int near), some (false, .int (-1)), y2]) (by
    unfold T15_law
    simp only [PM.tgT, PM.tgs, PM.callE, PM.runF, PM.initE, PM.seqS, PM.asgS, PM.tgS, PM.parS, PM.appS, PM.augS, PM.dropS, PM.retS, PM.retN, PM.retV, PM.ifS, PM.forS, PM.M.thenS, PM.M.bind, PM.M.lift, PM.ret, PM.cst, PM.var, PM.pvar, PM.pk, PM.bin, PM.asB, PM.truth, PM.tru, PM.tand, PM.tor, PM.tnot, PM.vand, PM.vor, PM.vnot, PM.iff, PM.sli, PM.ono, PM.oin, PM.acons, PM.anil, PM.cnil, PM.cval, PM.cvw, PM.lstE, PM.tupE, PM.blt, PM.isi, PM.una, PM.smE, PM.src, PM.rng1, PM.rng2, PM.skip, PM.brkS, PM.cntS, PM.tgN, PM.itemsD, PM.tyD, PM.Ty.sub, PM.addD, PM.addIA, PM.subD, PM.mulD, PM.mulID, PM.fdivD, PM.modD, PM.powD, PM.ltD, PM.leD, PM.gtD, PM.geD, PM.cmpD, PM.eqD, PM.neD, PM.ixD, PM.sliceD, PM.lenD, PM.intD, PM.strD, PM.listD, PM.tupD, PM.joinD, PM.rjustD, PM.negD, List.length_cons, List.length_nil, List.getElem?_cons_zero, List.getElem?_cons_succ, List.set_cons_zero, List.set_cons_succ, List.map_cons, List.map_nil, List.cons_append, List.nil_append, List.append_nil, List.replicate, List.length_map, List.length_append, if_true, if_false, ite_true, ite_false, reduceIte, Bool.false_eq_true, decide_eq_true_eq, Option.map_some, Option.map_none, Option.bind_some, Option.bind_none, Option.some.injEq, Option.join, List.isEmpty_cons, List.isEmpty_nil, List.all_cons, List.all_nil, PM.owned, PM.noLS, PM.noL, PM.noLs, Bool.or_true, Bool.true_or, Bool.or_false, Bool.false_or, Bool.and_true, Bool.true_and, Bool.and_false, Bool.false_and, Bool.not_true, Bool.not_false, List.isEmpty_map, PM.setS, PM.augIxS, PM.isD, PM.isNonD, PM.isBlD, PM.isNotD, PM.sumD, PM.allD, PM.anyD, PM.absD, PM.gcdD, PM.bitsD, PM.maxD, PM.minD, reduceCtorEq, decide_true, decide_false, eq_self, Nat.zero_add, Nat.reduceAdd, Nat.reduceSub, Nat.reduceLT, Nat.reduceEqDiff, Int.reduceAdd, Int.reduceSub, Int.reduceMul, Int.cast_ofNat_Int, Int.reduceBNe, Int.reduceBEq, Int.reduceNe, Nat.reduceBEq, PySem.sizeLine_eq, Nat.reduceLeDiff, Nat.reduceMul, Nat.reducePow, Int.reduceLE, Int.reduceLT, Int.reduceNeg, Int.reducePow, Int.reduceEq, and_self, and_true, true_and, PM.lcE, PM.compF, PM.yes, PM.wipeE, PM.restE, PM.clean, PM.forF, PM.blsD, decide_eq_true_eq, List.all_cons, List.all_nil, id_eq, o0, o1, o2, noW])]
  have c0 := (compared_ok (r := 0) g (by decide)).1
  rw [W0] at c0
  rw [seq_nx (S1 := T16_law) (ρ1 := [some (false, scr ns), some (true, .lst (l1.map D.int)), some (true, .lst (l2.map D.int)), some (false, W u), some (false, W v), some (false, W dd), some (false, .int w), x7, x8, x9, some (false, .int fine), some (false, .int near), some (false, .int (-1)), y2]) (by
    unfold T16_law
    simp only [PM.tgT, PM.tgs, PM.callE, PM.runF, PM.initE, PM.seqS, PM.asgS, PM.tgS, PM.parS, PM.appS, PM.augS, PM.dropS, PM.retS, PM.retN, PM.retV, PM.ifS, PM.forS, PM.M.thenS, PM.M.bind, PM.M.lift, PM.ret, PM.cst, PM.var, PM.pvar, PM.pk, PM.bin, PM.asB, PM.truth, PM.tru, PM.tand, PM.tor, PM.tnot, PM.vand, PM.vor, PM.vnot, PM.iff, PM.sli, PM.ono, PM.oin, PM.acons, PM.anil, PM.cnil, PM.cval, PM.cvw, PM.lstE, PM.tupE, PM.blt, PM.isi, PM.una, PM.smE, PM.src, PM.rng1, PM.rng2, PM.skip, PM.brkS, PM.cntS, PM.tgN, PM.itemsD, PM.tyD, PM.Ty.sub, PM.addD, PM.addIA, PM.subD, PM.mulD, PM.mulID, PM.fdivD, PM.modD, PM.powD, PM.ltD, PM.leD, PM.gtD, PM.geD, PM.cmpD, PM.eqD, PM.neD, PM.ixD, PM.sliceD, PM.lenD, PM.intD, PM.strD, PM.listD, PM.tupD, PM.joinD, PM.rjustD, PM.negD, List.length_cons, List.length_nil, List.getElem?_cons_zero, List.getElem?_cons_succ, List.set_cons_zero, List.set_cons_succ, List.map_cons, List.map_nil, List.cons_append, List.nil_append, List.append_nil, List.replicate, List.length_map, List.length_append, if_true, if_false, ite_true, ite_false, reduceIte, Bool.false_eq_true, decide_eq_true_eq, Option.map_some, Option.map_none, Option.bind_some, Option.bind_none, Option.some.injEq, Option.join, List.isEmpty_cons, List.isEmpty_nil, List.all_cons, List.all_nil, PM.owned, PM.noLS, PM.noL, PM.noLs, Bool.or_true, Bool.true_or, Bool.or_false, Bool.false_or, Bool.and_true, Bool.true_and, Bool.and_false, Bool.false_and, Bool.not_true, Bool.not_false, List.isEmpty_map, PM.setS, PM.augIxS, PM.isD, PM.isNonD, PM.isBlD, PM.isNotD, PM.sumD, PM.allD, PM.anyD, PM.absD, PM.gcdD, PM.bitsD, PM.maxD, PM.minD, reduceCtorEq, decide_true, decide_false, eq_self, Nat.zero_add, Nat.reduceAdd, Nat.reduceSub, Nat.reduceLT, Nat.reduceEqDiff, Int.reduceAdd, Int.reduceSub, Int.reduceMul, Int.cast_ofNat_Int, Int.reduceBNe, Int.reduceBEq, Int.reduceNe, Nat.reduceBEq, PySem.sizeLine_eq, Nat.reduceLeDiff, Nat.reduceMul, Nat.reducePow, Int.reduceLE, Int.reduceLT, Int.reduceNeg, Int.reducePow, Int.reduceEq, and_self, and_true, true_and, h4, c0, noW])]
  have gu := g.bu
  have gv := g.bv
  have gd := g.bd
  obtain ⟨k, _, ek, bk⟩ := floor_law (u := u) (v := v) (d := dd) (n := 494) (by omega) (by decide) (by omega) (by omega) (by omega) g.d0 g.sz
  have bk' := bs_int (n := 494) bk
  have ck := (compared_ok (r := (k : Rat)) g (by omega)).1
  rw [W_int] at ck
  have cz := (compared_ok (r := z) g (by have := fz.b; omega)).1
  unfold T17_law
  simp only [PM.tgT, PM.tgs, PM.callE, PM.runF, PM.initE, PM.seqS, PM.asgS, PM.tgS, PM.parS, PM.appS, PM.augS, PM.dropS, PM.retS, PM.retN, PM.retV, PM.ifS, PM.forS, PM.M.thenS, PM.M.bind, PM.M.lift, PM.ret, PM.cst, PM.var, PM.pvar, PM.pk, PM.bin, PM.asB, PM.truth, PM.tru, PM.tand, PM.tor, PM.tnot, PM.vand, PM.vor, PM.vnot, PM.iff, PM.sli, PM.ono, PM.oin, PM.acons, PM.anil, PM.cnil, PM.cval, PM.cvw, PM.lstE, PM.tupE, PM.blt, PM.isi, PM.una, PM.smE, PM.src, PM.rng1, PM.rng2, PM.skip, PM.brkS, PM.cntS, PM.tgN, PM.itemsD, PM.tyD, PM.Ty.sub, PM.addD, PM.addIA, PM.subD, PM.mulD, PM.mulID, PM.fdivD, PM.modD, PM.powD, PM.ltD, PM.leD, PM.gtD, PM.geD, PM.cmpD, PM.eqD, PM.neD, PM.ixD, PM.sliceD, PM.lenD, PM.intD, PM.strD, PM.listD, PM.tupD, PM.joinD, PM.rjustD, PM.negD, List.length_cons, List.length_nil, List.getElem?_cons_zero, List.getElem?_cons_succ, List.set_cons_zero, List.set_cons_succ, List.map_cons, List.map_nil, List.cons_append, List.nil_append, List.append_nil, List.replicate, List.length_map, List.length_append, if_true, if_false, ite_true, ite_false, reduceIte, Bool.false_eq_true, decide_eq_true_eq, Option.map_some, Option.map_none, Option.bind_some, Option.bind_none, Option.some.injEq, Option.join, List.isEmpty_cons, List.isEmpty_nil, List.all_cons, List.all_nil, PM.owned, PM.noLS, PM.noL, PM.noLs, Bool.or_true, Bool.true_or, Bool.or_false, Bool.false_or, Bool.and_true, Bool.true_and, Bool.and_false, Bool.false_and, Bool.not_true, Bool.not_false, List.isEmpty_map, PM.setS, PM.augIxS, PM.isD, PM.isNonD, PM.isBlD, PM.isNotD, PM.sumD, PM.allD, PM.anyD, PM.absD, PM.gcdD, PM.bitsD, PM.maxD, PM.minD, reduceCtorEq, decide_true, decide_false, eq_self, Nat.zero_add, Nat.reduceAdd, Nat.reduceSub, Nat.reduceLT, Nat.reduceEqDiff, Int.reduceAdd, Int.reduceSub, Int.reduceMul, Int.cast_ofNat_Int, Int.reduceBNe, Int.reduceBEq, Int.reduceNe, Nat.reduceBEq, PySem.sizeLine_eq, Nat.reduceLeDiff, Nat.reduceMul, Nat.reducePow, Int.reduceLE, Int.reduceLT, Int.reduceNeg, Int.reducePow, Int.reduceEq, and_self, and_true, true_and, ek, ck, ez, cz, noW, nl2]
end LawW
namespace LawW
open PySem PySem.Spec PyProof.Rows L2 PM
/-! ### the head -/
def D__law_numbers : He.DefD := ⟨("_law_numbers", none), "_law_numbers", "_law_numbers", defArgs s__law_numbers, defBody s__law_numbers, defScope s__law_numbers, [], []⟩
def D__law_pick : He.DefD := ⟨("_law_pick", none), "_law_pick", "_law_pick", defArgs s__law_pick, defBody s__law_pick, defScope s__law_pick, [], []⟩
def D__law_lowest : He.DefD := ⟨("_law_lowest", none), "_law_lowest", "_law_lowest", defArgs s__law_lowest, defBody s__law_lowest, defScope s__law_lowest, [], []⟩
def D__law_fraction : He.DefD := ⟨("_law_fraction", none), "_law_fraction", "_law_fraction", defArgs s__law_fraction, defBody s__law_fraction, defScope s__law_fraction, [], []⟩
def D__law_less : He.DefD := ⟨("_law_less", none), "_law_less", "_law_less", defArgs s__law_less, defBody s__law_less, defScope s__law_less, [], []⟩
def D__law_sign : He.DefD := ⟨("_law_sign", none), "_law_sign", "_law_sign", defArgs s__law_sign, defBody s__law_sign, defScope s__law_sign, [], []⟩
def D__law_sum_sign : He.DefD := ⟨("_law_sum_sign", none), "_law_sum_sign", "_law_sum_sign", defArgs s__law_sum_sign, defBody s__law_sum_sign, defScope s__law_sum_sign, [], []⟩
def D_negative : He.DefD := ⟨("negative", none), "negative", "negative", defArgs s_negative, defBody s_negative, defScope s_negative, [], []⟩
def D_ratio : He.DefD := ⟨("ratio", none), "ratio", "ratio", defArgs s_ratio, defBody s_ratio, defScope s_ratio, [], []⟩
def D_plus : He.DefD := ⟨("plus", none), "plus", "plus", defArgs s_plus, defBody s_plus, defScope s_plus, [], []⟩
def D_minus : He.DefD := ⟨("minus", none), "minus", "minus", defArgs s_minus, defBody s_minus, defScope s_minus, [], []⟩
def D_sign : He.DefD := ⟨("sign", none), "sign", "sign", defArgs s_sign, defBody s_sign, defScope s_sign, [], []⟩
def D_times : He.DefD := ⟨("times", none), "times", "times", defArgs s_times, defBody s_times, defScope s_times, [], []⟩
def D_compare : He.DefD := ⟨("compare", none), "compare", "compare", defArgs s_compare, defBody s_compare, defScope s_compare, [], []⟩
def D_sign_beside : He.DefD := ⟨("sign_beside", none), "sign_beside", "sign_beside", defArgs s_sign_beside, defBody s_sign_beside, defScope s_sign_beside, [], []⟩
def D_sign_of_sum : He.DefD := ⟨("sign_of_sum", none), "sign_of_sum", "sign_of_sum", defArgs s_sign_of_sum, defBody s_sign_of_sum, defScope s_sign_of_sum, [], []⟩
def D_compare_sum : He.DefD := ⟨("compare_sum", none), "compare_sum", "compare_sum", defArgs s_compare_sum, defBody s_compare_sum, defScope s_compare_sum, [], []⟩
def D__law_same : He.DefD := ⟨("_law_same", none), "_law_same", "_law_same", defArgs s__law_same, defBody s__law_same, defScope s__law_same, [], []⟩
def D__law_compared : He.DefD := ⟨("_law_compared", none), "_law_compared", "_law_compared", defArgs s__law_compared, defBody s__law_compared, defScope s__law_compared, [], []⟩
def D__law_root : He.DefD := ⟨("_law_root", none), "_law_root", "_law_root", defArgs s__law_root, defBody s__law_root, defScope s__law_root, [], []⟩
def D__law_floor : He.DefD := ⟨("_law_floor", none), "_law_floor", "_law_floor", defArgs s__law_floor, defBody s__law_floor, defScope s__law_floor, [], []⟩
def D_as_one_root : He.DefD := ⟨("as_one_root", none), "as_one_root", "as_one_root", defArgs s_as_one_root, defBody s_as_one_root, defScope s_as_one_root, [], []⟩
def D_root_up : He.DefD := ⟨("root_up", none), "root_up", "root_up", defArgs s_root_up, defBody s_root_up, defScope s_root_up, [], []⟩
def D_floor_of_sum : He.DefD := ⟨("floor_of_sum", none), "floor_of_sum", "floor_of_sum", defArgs s_floor_of_sum, defBody s_floor_of_sum, defScope s_floor_of_sum, [], []⟩
def D_ceiling_of_sum : He.DefD := ⟨("ceiling_of_sum", none), "ceiling_of_sum", "ceiling_of_sum", defArgs s_ceiling_of_sum, defBody s_ceiling_of_sum, defScope s_ceiling_of_sum, [], []⟩
def D__law_holds : He.DefD := ⟨("_law_holds", none), "_law_holds", "_law_holds", defArgs s__law_holds, defBody s__law_holds, defScope s__law_holds, [], []⟩
def D_law : He.DefD := ⟨("law", none), "law", "law", defArgs s_law, defBody s_law, defScope s_law, [], []⟩
def fn : List He.DefD := [D__law_numbers, D__law_pick, D__law_lowest, D__law_fraction, D__law_less, D__law_sign, D__law_sum_sign, D_negative, D_ratio, D_plus, D_minus, D_sign, D_times, D_compare, D_sign_beside, D_sign_of_sum, D_compare_sum, D__law_same, D__law_compared, D__law_root, D__law_floor, D_as_one_root, D_root_up, D_floor_of_sum, D_ceiling_of_sum, D__law_holds, D_law]
def fa : List He.Fa := [.glo "_law_numbers", .glo "_law_pick", .glo "_law_lowest", .glo "_law_fraction", .glo "_law_less", .glo "_law_sign", .glo "_law_sum_sign", .glo "negative", .glo "ratio", .glo "plus", .glo "minus", .glo "sign", .glo "times", .glo "compare", .glo "sign_beside", .glo "sign_of_sum", .glo "compare_sum", .glo "_law_same", .glo "_law_compared", .glo "_law_root", .glo "_law_floor", .glo "as_one_root", .glo "root_up", .glo "floor_of_sum", .glo "ceiling_of_sum", .glo "_law_holds", .glo "law", .free "abs", .free "bool", .free "int", .free "isinstance", .free "len", .free "list", .free "range", .free "str", .free "tuple"]
abbrev PP : Program := PySem.Challenge.pw_inkedtrue_k02_signs_of_roots
def cs : List IniD := []
abbrev R : PySem.W.OpenRow := PySem.W.OpenLaw.row PySem.Challenge.rw_inkedtrue_k02_signs_of_roots
def exs (K : PM.Fr) : List Bool := [bfnB K "gcd" "math.gcd", bfnB K "isqrt" "math.isqrt", clsB K "BadNumber", (He.Fa.exc "BadNumber").ok K]
def ex (K : PM.Fr) : Bool := (exs K).all id
theorem ex_at {K : PM.Fr} (h : ex K = true) (i : Nat) {b : Bool} (e : (exs K)[i]? = some b := by rfl) : b = true := List.all_eq_true.mp h b (List.mem_of_getElem? e)
abbrev hk : PySem.W.Hook := hookO 4 fa fn cs ex
def ob (s : PySem.W.SharedT) : AlO := obsO 4 fa fn cs ex (HandSHeadRun.getT s)
theorem ob_eq (s : PySem.W.SharedT) : ob s = hk.obs s.abs := obsO_eq (HandSHeadRun.getT_eq s)
abbrev loose : List Str := (["gcd", "isqrt", "InkError", "BadNumber", "ratio", "plus", "negative", "minus", "times", "sign", "compare", "sign_beside", "sign_of_sum", "compare_sum", "as_one_root", "root_up"] : List Str) ++ (["floor_of_sum", "ceiling_of_sum", "_law_numbers", "_law_pick", "_law_same", "_law_lowest", "_law_sign", "_law_sum_sign", "_law_less", "_law_fraction", "_law_root", "_law_floor", "_law_holds", "_law_compared"] : List Str)
theorem run (w : World) : HandSHeadRun.RunEqI R (PySem.W.view R.prog [0, 33]) hk ob 4000 loose w := by
  unfold HandSHeadRun.RunEqI
  kernel_rfl
theorem facts {K : PM.Fr} {h : Heap} {mg : Str → Option Value} (X : K.In h) (G : h.Ns mainGlobals mg) (c : He.SaysD fa fn K) (hex : ex K = true) (hcs : (cs.map fun d => iniW K d.n) = cs.map IniD.val) : Nonempty (Fx PP K mg) := by
  obtain ⟨d__law_numbers, F__law_numbers⟩ := c.def_ 0 (d := D__law_numbers) rfl
  obtain ⟨d__law_pick, F__law_pick⟩ := c.def_ 1 (d := D__law_pick) rfl
  obtain ⟨d__law_lowest, F__law_lowest⟩ := c.def_ 2 (d := D__law_lowest) rfl
  obtain ⟨d__law_fraction, F__law_fraction⟩ := c.def_ 3 (d := D__law_fraction) rfl
  obtain ⟨d__law_less, F__law_less⟩ := c.def_ 4 (d := D__law_less) rfl
  obtain ⟨d__law_sign, F__law_sign⟩ := c.def_ 5 (d := D__law_sign) rfl
  obtain ⟨d__law_sum_sign, F__law_sum_sign⟩ := c.def_ 6 (d := D__law_sum_sign) rfl
  obtain ⟨d_negative, F_negative⟩ := c.def_ 7 (d := D_negative) rfl
  obtain ⟨d_ratio, F_ratio⟩ := c.def_ 8 (d := D_ratio) rfl
  obtain ⟨d_plus, F_plus⟩ := c.def_ 9 (d := D_plus) rfl
  obtain ⟨d_minus, F_minus⟩ := c.def_ 10 (d := D_minus) rfl
  obtain ⟨d_sign, F_sign⟩ := c.def_ 11 (d := D_sign) rfl
  obtain ⟨d_times, F_times⟩ := c.def_ 12 (d := D_times) rfl
  obtain ⟨d_compare, F_compare⟩ := c.def_ 13 (d := D_compare) rfl
  obtain ⟨d_sign_beside, F_sign_beside⟩ := c.def_ 14 (d := D_sign_beside) rfl
  obtain ⟨d_sign_of_sum, F_sign_of_sum⟩ := c.def_ 15 (d := D_sign_of_sum) rfl
  obtain ⟨d_compare_sum, F_compare_sum⟩ := c.def_ 16 (d := D_compare_sum) rfl
  obtain ⟨d__law_same, F__law_same⟩ := c.def_ 17 (d := D__law_same) rfl
  obtain ⟨d__law_compared, F__law_compared⟩ := c.def_ 18 (d := D__law_compared) rfl
  obtain ⟨d__law_root, F__law_root⟩ := c.def_ 19 (d := D__law_root) rfl
  obtain ⟨d__law_floor, F__law_floor⟩ := c.def_ 20 (d := D__law_floor) rfl
  obtain ⟨d_as_one_root, F_as_one_root⟩ := c.def_ 21 (d := D_as_one_root) rfl
  obtain ⟨d_root_up, F_root_up⟩ := c.def_ 22 (d := D_root_up) rfl
  obtain ⟨d_floor_of_sum, F_floor_of_sum⟩ := c.def_ 23 (d := D_floor_of_sum) rfl
  obtain ⟨d_ceiling_of_sum, F_ceiling_of_sum⟩ := c.def_ 24 (d := D_ceiling_of_sum) rfl
  obtain ⟨d__law_holds, F__law_holds⟩ := c.def_ 25 (d := D__law_holds) rfl
  obtain ⟨d_law, F_law⟩ := c.def_ 26 (d := D_law) rfl
  exact ⟨{ a__law_numbers := _, d__law_numbers := d__law_numbers, F__law_numbers := F__law_numbers, g__law_numbers := He.glo_ok X G (c.fact 0 rfl), a__law_pick := _, d__law_pick := d__law_pick, F__law_pick := F__law_pick, g__law_pick := He.glo_ok X G (c.fact 1 rfl), a__law_lowest := _, d__law_lowest := d__law_lowest, F__law_lowest := F__law_lowest, g__law_lowest := He.glo_ok X G (c.fact 2 rfl), a__law_fraction := _, d__law_fraction := d__law_fraction, F__law_fraction := F__law_fraction, g__law_fraction := He.glo_ok X G (c.fact 3 rfl), a__law_less := _, d__law_less := d__law_less, F__law_less := F__law_less, g__law_less := He.glo_ok X G (c.fact 4 rfl), a__law_sign := _, d__law_sign := d__law_sign, F__law_sign := F__law_sign, g__law_sign := He.glo_ok X G (c.fact 5 rfl), a__law_sum_sign := _, d__law_sum_sign := d__law_sum_sign, F__law_sum_sign := F__law_sum_sign, g__law_sum_sign := He.glo_ok X G (c.fact 6 rfl), a_negative := _, d_negative := d_negative, F_negative := F_negative, g_negative := He.glo_ok X G (c.fact 7 rfl), a_ratio := _, d_ratio := d_ratio, F_ratio := F_ratio, g_ratio := He.glo_ok X G (c.fact 8 rfl), a_plus := _, d_plus := d_plus, F_plus := F_plus, g_plus := He.glo_ok X G (c.fact 9 rfl), a_minus := _, d_minus := d_minus, F_minus := F_minus, g_minus := He.glo_ok X G (c.fact 10 rfl), a_sign := _, d_sign := d_sign, F_sign := F_sign, g_sign := He.glo_ok X G (c.fact 11 rfl), a_times := _, d_times := d_times, F_times := F_times, g_times := He.glo_ok X G (c.fact 12 rfl), a_compare := _, d_compare := d_compare, F_compare := F_compare, g_compare := He.glo_ok X G (c.fact 13 rfl), a_sign_beside := _, d_sign_beside := d_sign_beside, F_sign_beside := F_sign_beside, g_sign_beside := He.glo_ok X G (c.fact 14 rfl), a_sign_of_sum := _, d_sign_of_sum := d_sign_of_sum, F_sign_of_sum := F_sign_of_sum, g_sign_of_sum := He.glo_ok X G (c.fact 15 rfl), a_compare_sum := _, d_compare_sum := d_compare_sum, F_compare_sum := F_compare_sum, g_compare_sum := He.glo_ok X G (c.fact 16 rfl), a__law_same := _, d__law_same := d__law_same, F__law_same := F__law_same, g__law_same := He.glo_ok X G (c.fact 17 rfl), a__law_compared := _, d__law_compared := d__law_compared, F__law_compared := F__law_compared, g__law_compared := He.glo_ok X G (c.fact 18 rfl), a__law_root := _, d__law_root := d__law_root, F__law_root := F__law_root, g__law_root := He.glo_ok X G (c.fact 19 rfl), a__law_floor := _, d__law_floor := d__law_floor, F__law_floor := F__law_floor, g__law_floor := He.glo_ok X G (c.fact 20 rfl), a_as_one_root := _, d_as_one_root := d_as_one_root, F_as_one_root := F_as_one_root, g_as_one_root := He.glo_ok X G (c.fact 21 rfl), a_root_up := _, d_root_up := d_root_up, F_root_up := F_root_up, g_root_up := He.glo_ok X G (c.fact 22 rfl), a_floor_of_sum := _, d_floor_of_sum := d_floor_of_sum, F_floor_of_sum := F_floor_of_sum, g_floor_of_sum := He.glo_ok X G (c.fact 23 rfl), a_ceiling_of_sum := _, d_ceiling_of_sum := d_ceiling_of_sum, F_ceiling_of_sum := F_ceiling_of_sum, g_ceiling_of_sum := He.glo_ok X G (c.fact 24 rfl), a__law_holds := _, d__law_holds := d__law_holds, F__law_holds := F__law_holds, g__law_holds := He.glo_ok X G (c.fact 25 rfl), a_law := _, d_law := d_law, F_law := F_law, g_law := He.glo_ok X G (c.fact 26 rfl), m_abs := He.free_ok X G (c.fact 27 rfl), m_bool := He.free_ok X G (c.fact 28 rfl), m_int := He.free_ok X G (c.fact 29 rfl), m_isinstance := He.free_ok X G (c.fact 30 rfl), m_len := He.free_ok X G (c.fact 31 rfl), m_list := He.free_ok X G (c.fact 32 rfl), m_range := He.free_ok X G (c.fact 33 rfl), m_str := He.free_ok X G (c.fact 34 rfl), m_tuple := He.free_ok X G (c.fact 35 rfl), f_gcd := bfnB_ok X G (ex_at hex 0), f_isqrt := bfnB_ok X G (ex_at hex 1), k_BadNumber := clsB_ok X G (ex_at hex 2), r_BadNumber := ex_at hex 3 }⟩
end LawW
open PySem PySem.W PySem.Calls PyProof.Rows
theorem PySem.Challenge.cw_inkedtrue_k02_signs_of_roots_holds : PySem.Challenge.rw_inkedtrue_k02_signs_of_roots.Holds := by
  w_on; o_law
  refine HandSHeadRun.head_imp (r := OpenLaw.row PySem.Challenge.rw_inkedtrue_k02_signs_of_roots) (q := view (OpenLaw.row PySem.Challenge.rw_inkedtrue_k02_signs_of_roots).prog [0, 33]) (H := LawW.hk) (ob := LawW.ob) (M := 4000) (loose := LawW.loose) (d := HandSHeadRun.topDef (OpenLaw.row PySem.Challenge.rw_inkedtrue_k02_signs_of_roots).prog 33) (kwd := []) LawW.ob_eq
    LawW.run (by kernel_rfl) (by kernel_rfl) (by kernel_rfl) (by rfl) (by first | assumption | decide +kernel) (by decide +kernel) ⟨rfl, rfl, rfl, rfl, rfl, by decide +kernel⟩ ?hw ?hc
  case hw => w_witness2
  case hc =>
    refine L2.walk_ofE (l := PySem.Challenge.rw_inkedtrue_k02_signs_of_roots) (n := 63) (k := 15) (x := "script") (CX := PM.CXU (PySem.Challenge.rw_inkedtrue_k02_signs_of_roots).prog) rfl (by decide) (by kernel_rfl) ⟨rfl, by decide, by decide⟩ ?F (fun H s e s' h => PM.cxu_no H s e s' h)
    intro w mg fa h Y G hmg0
    obtain ⟨K, KX, c, hno, hex, hcs⟩ := Y
    have hmg : mg ("law" : PySem.Str) = some (.ref fa) := by
      have e : (HandSHeadRun.topDef (OpenLaw.row PySem.Challenge.rw_inkedtrue_k02_signs_of_roots).prog 33).name = ("law" : PySem.Str) := by kernel_rfl
      rw [← e]
      exact hmg0
    obtain ⟨x⟩ := LawW.facts KX G c hex hcs
    have e := hmg.symm.trans x.g_law
    have e : fa = x.a_law := by
      cases e
      rfl
    subst e
    have b := L2.FunD.bindsA (ps := ["script"]) x.F_law fun _ _ _ _ _ _ us hl => match us, hl with | [_], _ => rfl
    exact ⟨K, x.d_law, PM.spF K mg LawW.M_law 1, KX, fun s v => b s [v] rfl, fun H a ns hl _ hS => PM.law_sp hno LawW.law_true H a ns hl hS, fun base _ _ => PM.cxu (LawW.ok_law x)⟩
