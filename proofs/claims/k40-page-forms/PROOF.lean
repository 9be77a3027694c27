import PyProof.Rows.All
import Wide.All
import OpenK.AllK
import Wide.FinOn
import HandS.Base
import HandS.Call
import HandS.List
import HandS.Comp
import HandS.Exc
import HandS.TryOnly
import HandS.ExcOwn
import HandS.CallSlots
import HandS.Words
import HandS.WordsExc
import HandS.Evl
import HandS.Text
import HandS.More
import HandS.Iter
import HandS.Wide
import HandS.WideBits
import HandS.TupAny
import HandS.IsInst
import HandS.Deep
import HandS.TupLe
import HandS.StrMore
import HandS.SortInts
import HandS.Gcd
import PyProof.Rows.StrPadWhole
import HandS.WideMore
import HandS.HeadHook1
import HandS.HeadHook2
import HandS.HeadNt
import HandS.Head0
import HandS.Head1
import HandS.Head2
import HandS.Head3
import HandS.HeadEnd
import HandS.Defaults
import KE.KStateDown
import OpenK.KEqL
import HandS.TryMany
import HandS.ExcIs
import HandS.ExcField
import HandS.Sort
import KE.KExcIs
import KE.KExcSuper
import HandS.ExcSuper
import HandS.ExcInit
import HandS.Nested
import HandS.Style
import KE.KRevSl
import HandS.Dict
import PyProof.Rows.RuleB_pow
import KE.GoesMore
import PyProof.EnumMake
import PyProof.Draws
import HandS.TupMul
import HandS.SetBool
import HandS.SetKeys
import KE.GoesZip
import HandS.Replace
import PyProof.ListStr
import PyProof.StrLawsIn
import HandS.Codes
import HandS.HotCalls
import PySem.Challenge.RW_inkedtrue_k40_page_forms
set_option Elab.async false
set_option linter.all false
set_option maxRecDepth 100000
set_option maxHeartbeats 0
namespace PM
open PySem L2

/-! ### data without addresses -/
inductive D where
  | non | bl (b : Bool) | int (i : Int) | str (s : List Nat)
  | lst (xs : List D) | tup (xs : List D) | dic (ks : List Key) (xs : List D) | raw (v : V)
instance : Inhabited D := ⟨.non⟩

abbrev Fr := PySem.W.Frag
abbrev st (s : List Nat) : Str := ⟨s.toArray⟩
def Sub (F H : Hp) : Prop := ∀ a o, F a = some o → H a = some o
theorem Sub.refl (H : Hp) : Sub H H := fun _ _ h => h
theorem Sub.trans {A B C : Hp} (h : Sub A B) (k : Sub B C) : Sub A C := fun a o e => k a o (h a o e)
theorem Sub.none {F H : Hp} (h : Sub F H) {a : Addr} (e : H a = Option.none) : F a = Option.none := by
  cases q : F a with
  | none => rfl
  | some o => rw [h a o q] at e; cases e
theorem Sub.upd {F : Hp} {a : Addr} {o : HO} (h : F a = Option.none) : Sub F (upd F a o) := fun b u e => by
  rw [upd_ne (ne_of_none e h)]; exact e
theorem Sub.sqL {K : Fr} {F H : Hp} (h : Sub F H) {a : Addr} {xs : List V} (k : SqL K F a xs) : SqL K H a xs := by
  rcases k with (k | ⟨o, k⟩) | k
  · exact .inl (.inl (h _ _ k))
  · exact .inl (.inr ⟨o, h _ _ k⟩)
  · exact .inr k
theorem Sub.rd {F H : Hp} (h : Sub F H) {a : Addr} {o : HO} (k : Rd F a o) : Rd H a o := by
  rcases k with k | ⟨o, k⟩
  · exact .inl (h _ _ k)
  · exact .inr ⟨o, h _ _ k⟩
theorem Sub.sqT {K : Fr} {F H : Hp} (h : Sub F H) {a : Addr} {xs : List V} (k : SqT K F a xs) : SqT K H a xs := by
  rcases k with (k | ⟨o, k⟩) | k
  · exact .inl (.inl (h _ _ k))
  · exact .inl (.inr ⟨o, h _ _ k⟩)
  · exact .inr k

mutual
def Rep (K : Fr) (F : Hp) : D → V → Prop
  | .non, v => v = .non
  | .bl b, v => v = .bl b
  | .int i, v => v = .int i
  | .str s, v => v = .str (st s)
  | .raw u, v => v = u
  | .lst ds, v => ∃ a vs, v = .ref a ∧ Rd F a (.lst vs) ∧ Reps K F ds vs
  | .tup ds, v => ∃ a vs, v = .ref a ∧ SqT K F a vs ∧ Reps K F ds vs
  | .dic ks ds, v => ∃ a vs, v = .ref a ∧ F a = some (.dK (ks.zip vs)) ∧ ks.length = vs.length ∧ Reps K F ds vs
def Reps (K : Fr) (F : Hp) : List D → List V → Prop
  | [], vs => vs = []
  | d :: ds, vs => ∃ v r, vs = v :: r ∧ Rep K F d v ∧ Reps K F ds r
end

mutual
theorem Rep.mono {K : Fr} {F H : Hp} (h : Sub F H) : ∀ (d : D) (v : V), Rep K F d v → Rep K H d v
  | .non, _, k => k
  | .bl _, _, k => k
  | .int _, _, k => k
  | .str _, _, k => k
  | .raw _, _, k => k
  | .lst ds, v, k => by
    unfold Rep at k ⊢
    obtain ⟨a, vs, e, s, r⟩ := k
    exact ⟨a, vs, e, h.rd s, Reps.mono h ds vs r⟩
  | .tup ds, v, k => by
    unfold Rep at k ⊢
    obtain ⟨a, vs, e, s, r⟩ := k
    exact ⟨a, vs, e, h.sqT s, Reps.mono h ds vs r⟩
  | .dic ks ds, v, k => by
    unfold Rep at k ⊢
    obtain ⟨a, vs, e, s, l, r⟩ := k
    exact ⟨a, vs, e, h _ _ s, l, Reps.mono h ds vs r⟩
theorem Reps.mono {K : Fr} {F H : Hp} (h : Sub F H) : ∀ (ds : List D) (vs : List V), Reps K F ds vs → Reps K H ds vs
  | [], _, k => k
  | d :: ds, vs, k => by
    unfold Reps at k ⊢
    obtain ⟨v, r, e, k1, k2⟩ := k
    exact ⟨v, r, e, Rep.mono h d v k1, Reps.mono h ds r k2⟩
end

theorem Reps.nil {K : Fr} {F : Hp} : Reps K F [] [] := by unfold Reps; rfl
theorem Reps.cons {K : Fr} {F : Hp} {d : D} {ds : List D} {v : V} {vs : List V} (h : Rep K F d v) (k : Reps K F ds vs) : Reps K F (d :: ds) (v :: vs) := by
  unfold Reps; exact ⟨v, vs, rfl, h, k⟩
theorem Reps.inv {K : Fr} {F : Hp} {d : D} {ds : List D} {vs : List V} (h : Reps K F (d :: ds) vs) : ∃ v r, vs = v :: r ∧ Rep K F d v ∧ Reps K F ds r := by
  unfold Reps at h; exact h
theorem Reps.inv0 {K : Fr} {F : Hp} {vs : List V} (h : Reps K F [] vs) : vs = [] := by
  unfold Reps at h; exact h
theorem Reps.length {K : Fr} {F : Hp} : ∀ {ds : List D} {vs : List V}, Reps K F ds vs → ds.length = vs.length
  | [], vs, h => by rw [h.inv0]; rfl
  | d :: ds, vs, h => by
    obtain ⟨v, r, rfl, _, k⟩ := h.inv
    rw [List.length_cons, List.length_cons, k.length]
theorem Reps.get {K : Fr} {F : Hp} : ∀ {ds : List D} {vs : List V} {i : Nat} {d : D}, Reps K F ds vs → ds[i]? = some d → ∃ v, vs[i]? = some v ∧ Rep K F d v
  | [], vs, i, d, h, e => by simp at e
  | d' :: ds, vs, 0, d, h, e => by
    obtain ⟨v, r, rfl, k1, _⟩ := h.inv
    simp at e; subst e
    exact ⟨v, rfl, k1⟩
  | d' :: ds, vs, i + 1, d, h, e => by
    obtain ⟨v, r, rfl, _, k⟩ := h.inv
    obtain ⟨v', e', k'⟩ := Reps.get (i := i) k (by simpa using e)
    exact ⟨v', by simpa using e', k'⟩
theorem Reps.getV {K : Fr} {F : Hp} : ∀ {ds : List D} {vs : List V} {i : Nat} {v : V}, Reps K F ds vs → vs[i]? = some v → ∃ d, ds[i]? = some d ∧ Rep K F d v
  | [], vs, i, v, h, e => by rw [h.inv0] at e; simp at e
  | d' :: ds, vs, 0, v, h, e => by
    obtain ⟨v', r, rfl, k1, _⟩ := h.inv
    simp at e; subst e
    exact ⟨d', rfl, k1⟩
  | d' :: ds, vs, i + 1, v, h, e => by
    obtain ⟨v', r, rfl, _, k⟩ := h.inv
    obtain ⟨d, e', k'⟩ := Reps.getV (i := i) k (by simpa using e)
    exact ⟨d, by simpa using e', k'⟩
theorem Reps.append {K : Fr} {F : Hp} : ∀ {ds es : List D} {vs us : List V}, Reps K F ds vs → Reps K F es us → Reps K F (ds ++ es) (vs ++ us)
  | [], es, vs, us, h, k => by rw [h.inv0]; exact k
  | d :: ds, es, vs, us, h, k => by
    obtain ⟨v, r, rfl, k1, k2⟩ := h.inv
    exact Reps.cons k1 (Reps.append k2 k)
theorem Reps.take {K : Fr} {F : Hp} : ∀ {ds : List D} {vs : List V} (n : Nat), Reps K F ds vs → Reps K F (ds.take n) (vs.take n)
  | ds, vs, 0, h => by rw [List.take_zero, List.take_zero]; exact Reps.nil
  | [], vs, n + 1, h => by rw [h.inv0]; exact Reps.nil
  | d :: ds, vs, n + 1, h => by
    obtain ⟨v, r, rfl, k1, k2⟩ := h.inv
    exact Reps.cons k1 (Reps.take n k2)
theorem Reps.drop {K : Fr} {F : Hp} : ∀ {ds : List D} {vs : List V} (n : Nat), Reps K F ds vs → Reps K F (ds.drop n) (vs.drop n)
  | ds, vs, 0, h => h
  | [], vs, n + 1, h => by rw [h.inv0]; exact Reps.nil
  | d :: ds, vs, n + 1, h => by
    obtain ⟨v, r, rfl, k1, k2⟩ := h.inv
    exact Reps.drop n k2
theorem Reps.set {K : Fr} {F : Hp} : ∀ {ds : List D} {vs : List V} (n : Nat) {d : D} {v : V}, Reps K F ds vs → Rep K F d v → Reps K F (ds.set n d) (vs.set n v)
  | [], vs, n, d, v, h, k => by rw [h.inv0]; exact Reps.nil
  | d' :: ds, vs, 0, d, v, h, k => by
    obtain ⟨v', r, rfl, k1, k2⟩ := h.inv
    exact Reps.cons k k2
  | d' :: ds, vs, n + 1, d, v, h, k => by
    obtain ⟨v', r, rfl, k1, k2⟩ := h.inv
    exact Reps.cons k1 (Reps.set n k2 k)

/-! ### a frame's slots: (owned, datum) -/
abbrev Slot := Bool × D
abbrev Env := List (Option Slot)

/-- a list or dict that stands at a -/
def At (K : Fr) (F H : Hp) (d : D) (a : Addr) : Prop :=
  match d with
  | .lst ds => ∃ vs, H a = some (.lst vs) ∧ Reps K F ds vs
  | .dic ks ds => ∃ vs, H a = some (.dK (ks.zip vs)) ∧ ks.length = vs.length ∧ Reps K F ds vs
  | _ => False
def Own (K : Fr) (B F H : Hp) (d : D) (v : V) : Prop := ∃ a, v = .ref a ∧ F a = none ∧ B a = none ∧ At K F H d a
def SlR (K : Fr) (B F H : Hp) (s : Slot) (v : V) : Prop := match s with
  | (false, d) => Rep K F d v
  | (true, d) => Own K B F H d v
/-- readable: the outermost cell in H, what is within in F -/
def PkR (K : Fr) (F H : Hp) (d : D) (v : V) : Prop := match d with
  | .lst ds => ∃ a vs, v = .ref a ∧ Rd H a (.lst vs) ∧ Reps K F ds vs
  | .dic ks ds => ∃ a vs, v = .ref a ∧ H a = some (.dK (ks.zip vs)) ∧ ks.length = vs.length ∧ Reps K F ds vs
  | d => Rep K F d v

theorem At.mono {K : Fr} {F H F' H' : Hp} {d : D} {a : Addr} (h : At K F H d a) (f : Sub F F') (e : ∀ o, H a = some o → H' a = some o) : At K F' H' d a := by
  cases d with
  | lst ds =>
    obtain ⟨vs, h1, h2⟩ := h
    exact ⟨vs, e _ h1, Reps.mono f _ _ h2⟩
  | dic ks ds =>
    obtain ⟨vs, h1, h2, h3⟩ := h
    exact ⟨vs, e _ h1, h2, Reps.mono f _ _ h3⟩
  | _ => exact h.elim
theorem At.there {K : Fr} {F H : Hp} {d : D} {a : Addr} (h : At K F H d a) : ∃ o, H a = some o := by
  cases d with
  | lst ds => obtain ⟨vs, h1, _⟩ := h; exact ⟨_, h1⟩
  | dic ks ds => obtain ⟨vs, h1, _⟩ := h; exact ⟨_, h1⟩
  | _ => exact h.elim
/-- what stands at a, frozen -/
theorem At.rep {K : Fr} {F H F' : Hp} {d : D} {a : Addr} (h : At K F H d a) (f : Sub F F') (e : ∀ o, H a = some o → F' a = some o) : Rep K F' d (.ref a) := by
  cases d with
  | lst ds =>
    obtain ⟨vs, h1, h2⟩ := h
    unfold Rep
    exact ⟨a, vs, rfl, .inl (e _ h1), Reps.mono f _ _ h2⟩
  | dic ks ds =>
    obtain ⟨vs, h1, h2, h3⟩ := h
    unfold Rep
    exact ⟨a, vs, rfl, e _ h1, h2, Reps.mono f _ _ h3⟩
  | _ => exact h.elim
theorem At.pk {K : Fr} {F H : Hp} {d : D} {a : Addr} (h : At K F H d a) : PkR K F H d (.ref a) := by
  cases d with
  | lst ds =>
    obtain ⟨vs, h1, h2⟩ := h
    exact ⟨a, vs, rfl, .inl h1, h2⟩
  | dic ks ds =>
    obtain ⟨vs, h1, h2, h3⟩ := h
    exact ⟨a, vs, rfl, h1, h2, h3⟩
  | _ => exact h.elim
theorem Rep.pk {K : Fr} {F H : Hp} (f : Sub F H) {d : D} {v : V} (h : Rep K F d v) : PkR K F H d v := by
  cases d with
  | lst ds =>
    unfold Rep at h
    obtain ⟨a, vs, e, s, r⟩ := h
    exact ⟨a, vs, e, f.rd s, r⟩
  | dic ks ds =>
    unfold Rep at h
    obtain ⟨a, vs, e, s, l, r⟩ := h
    exact ⟨a, vs, e, f _ _ s, l, r⟩
  | _ => exact h
theorem SlR.pk {K : Fr} {B F H : Hp} (f : Sub F H) {s : Slot} {v : V} (h : SlR K B F H s v) : PkR K F H s.2 v := by
  obtain ⟨o, d⟩ := s
  cases o with
  | false => exact Rep.pk f h
  | true =>
    obtain ⟨a, rfl, _, _, h⟩ := h
    exact h.pk
theorem PkR.mono {K : Fr} {F H F' H' : Hp} {d : D} {v : V} (h : PkR K F H d v) (f : Sub F F') (g : Sub H H') : PkR K F' H' d v := by
  cases d with
  | lst ds =>
    obtain ⟨a, vs, e, s, r⟩ := h
    exact ⟨a, vs, e, g.rd s, Reps.mono f _ _ r⟩
  | dic ks ds =>
    obtain ⟨a, vs, e, s, l, r⟩ := h
    exact ⟨a, vs, e, g _ _ s, l, Reps.mono f _ _ r⟩
  | tup ds => exact Rep.mono f (.tup ds) v h
  | _ => exact h
theorem PkR.rep {K : Fr} {F H : Hp} (f : Sub F H) {d : D} {v : V} (h : PkR K F H d v) : Rep K H d v := by
  cases d with
  | lst ds =>
    obtain ⟨a, vs, e, s, r⟩ := h
    unfold Rep
    exact ⟨a, vs, e, s, Reps.mono f _ _ r⟩
  | dic ks ds =>
    obtain ⟨a, vs, e, s, l, r⟩ := h
    unfold Rep
    exact ⟨a, vs, e, s, l, Reps.mono f _ _ r⟩
  | tup ds => exact Rep.mono f (.tup ds) v h
  | _ => exact h

/-- the state. B: what stood at the def's entry (kept); F0: what of it is data; F: the data now; H: the heap now -/

abbrev Pin := Option (Nat × V)
def Pin.ok (pp : Pin) (σ : L2.St) : Prop := ∀ i v, pp = some (i, v) → σ[i]? = some (some v)
def Pin.free (pp : Pin) (j : Nat) : Prop := ∀ i v, pp = some (i, v) → j ≠ i
theorem Pin.free_no {j : Nat} : Pin.free none j := fun i v h => by cases h
theorem Pin.free_ne {i j : Nat} {v : V} (h : j ≠ i) : Pin.free (some (i, v)) j := fun i' v' e => by cases e; exact h
theorem Pin.ok_no {σ : L2.St} : Pin.ok none σ := fun i v h => by cases h
theorem Pin.ok.set {pp : Pin} {σ : L2.St} (h : Pin.ok pp σ) {j : Nat} {o : Option V} (f : Pin.free pp j) : Pin.ok pp (σ.set j o) := fun i v e => by
  rw [List.getElem?_set_ne (f i v e)]
  exact h i v e
theorem Pin.ok.ext {pp : Pin} {σ σ' : L2.St} {js : List Nat} (h : Pin.ok pp σ) (f : ∀ j ∈ js, Pin.free pp j) (e : ∀ j, j ∉ js → σ'[j]? = σ[j]?) : Pin.ok pp σ' := fun i v q => by
  have : i ∉ js := fun z => f i z i v q rfl
  rw [e i this]
  exact h i v q
structure SR (pp : Pin) (K : Fr) (B F0 F H : Hp) (σ : L2.St) (ρ : Env) : Prop where
  bh : Sub B H
  fh : Sub F H
  f0 : Sub F0 F
  new : ∀ a o, F a = some o → F0 a = some o ∨ B a = none
  len : σ.length = ρ.length
  sl : ∀ (i : Nat) (s : Slot), ρ[i]? = some (some s) → ∃ v, σ[i]? = some (some v) ∧ SlR K B F H s v
  sep : ∀ (i j : Nat) (p : Addr) (di dj : D), ρ[i]? = some (some (true, di)) → ρ[j]? = some (some (true, dj)) → σ[i]? = some (some (.ref p)) → σ[j]? = some (some (.ref p)) → i = j
  pk : Pin.ok pp σ

/-- data and heap grow by new objects alone -/
structure Grow (F H F' H' : Hp) : Prop where
  f : Sub F F'
  h : Sub H H'
  fh : Sub F' H'
  new : ∀ a o, F' a = some o → F a = some o ∨ H a = none
theorem Grow.refl {F H : Hp} (h : Sub F H) : Grow F H F H := ⟨Sub.refl _, Sub.refl _, h, fun _ _ e => .inl e⟩
theorem Grow.trans {F H F1 H1 F2 H2 : Hp} (a : Grow F H F1 H1) (b : Grow F1 H1 F2 H2) : Grow F H F2 H2 :=
  ⟨a.f.trans b.f, a.h.trans b.h, b.fh, fun x o e => by
    rcases b.new x o e with e | e
    · exact a.new x o e
    · exact .inr (a.h.none e)⟩

section
variable {pp : Pin} {K : Fr} {B F0 F H F' H' : Hp} {σ : L2.St} {ρ ρ' : Env}
theorem SR.slot (S : SR pp K B F0 F H σ ρ) {i : Nat} {s : Slot} (e : ρ[i]? = some (some s)) : ∃ v, σ[i]? = some (some v) ∧ SlR K B F H s v := S.sl i s e
theorem SlR.grow {s : Slot} {v : V} (h : SlR K B F H s v) (g : Grow F H F' H') : SlR K B F' H' s v := by
  obtain ⟨o, d⟩ := s
  cases o with
  | false => exact Rep.mono g.f d v h
  | true =>
    obtain ⟨a, e, fa, ba, k⟩ := h
    obtain ⟨o, ho⟩ := k.there
    refine ⟨a, e, ?_, ba, k.mono g.f fun u hu => g.h a u hu⟩
    cases q : F' a with
    | none => rfl
    | some u =>
      rcases g.new a u q with z | z
      · rw [fa] at z; cases z
      · rw [ho] at z; cases z
theorem SR.grow (S : SR pp K B F0 F H σ ρ) (g : Grow F H F' H') : SR pp K B F0 F' H' σ ρ where
  bh := S.bh.trans g.h
  fh := g.fh
  f0 := S.f0.trans g.f
  new := fun a o e => by
    rcases g.new a o e with z | z
    · exact S.new a o z
    · exact .inr (S.bh.none z)
  len := S.len
  sl := fun i s e => by
    obtain ⟨v, h1, h2⟩ := S.sl i s e
    exact ⟨v, h1, h2.grow g⟩
  sep := S.sep
  pk := S.pk
/-- an owned datum is frozen: its cell goes to the data -/
theorem SR.freeze (S : SR pp K B F0 F H σ ρ) {i : Nat} {d : D} {v : V} (e : ρ[i]? = some (some (true, d))) (ev : σ[i]? = some (some v)) :
    ∃ F', SR pp K B F0 F' H σ (ρ.set i (some (false, d))) ∧ Sub F F' ∧ Rep K F' d v := by
  obtain ⟨v', e', a, rfl, fa, ba, k⟩ := S.sl i _ e
  rw [ev] at e'; cases e'
  obtain ⟨o, ho⟩ := k.there
  have hf : Sub F (upd F a o) := Sub.upd fa
  have hi : i < ρ.length := (List.getElem?_eq_some_iff.mp e).1
  refine ⟨upd F a o, ⟨S.bh, fun b u q => ?_, S.f0.trans hf, fun b u q => ?_, by simpa using S.len, fun j s q => ?_, fun j l p dj dl q1 q2 => ?_, S.pk⟩, hf, k.rep hf fun u hu => ?_⟩
  · by_cases hb : b = a
    · subst hb; rw [upd_same] at q; cases q; exact ho
    · rw [upd_ne hb] at q; exact S.fh b u q
  · by_cases hb : b = a
    · subst hb; exact .inr ba
    · rw [upd_ne hb] at q; exact S.new b u q
  · by_cases hj : j = i
    · subst hj
      rw [List.getElem?_set_self hi] at q
      cases q
      exact ⟨.ref a, ev, k.rep hf fun u hu => by rw [ho] at hu; cases hu; exact upd_same⟩
    · rw [List.getElem?_set_ne (Ne.symm hj)] at q
      obtain ⟨v, h1, h2⟩ := S.sl j s q
      refine ⟨v, h1, ?_⟩
      obtain ⟨ow, dj⟩ := s
      cases ow with
      | false => exact Rep.mono hf dj v h2
      | true =>
        obtain ⟨p, rfl, fp, bp, kp⟩ := h2
        have np : p ≠ a := fun z => by
          subst z
          exact hj (S.sep j i p dj d q e h1 ev)
        exact ⟨p, rfl, by rw [upd_ne np]; exact fp, bp, kp.mono hf fun u hu => hu⟩
  · have nj : j ≠ i := fun z => by
      subst z; rw [List.getElem?_set_self hi] at q1; cases q1
    have nl : l ≠ i := fun z => by
      subst z; rw [List.getElem?_set_self hi] at q2; cases q2
    rw [List.getElem?_set_ne (Ne.symm nj)] at q1
    rw [List.getElem?_set_ne (Ne.symm nl)] at q2
    exact S.sep j l p dj dl q1 q2
  · rw [ho] at hu; cases hu; exact upd_same
end
end PM
namespace PM
open PySem L2
variable {pp : Pin}

/-! ### what an expression, a statement, a def comes to -/
/-- an exception: its class's name, its fields -/
structure Exn where
  cls : Str
  fs : List (Str × D)
inductive Out (α : Type) where
  | ok (a : α) (ρ : Env)
  | exc (e : Exn) (ρ : Env)
  | bad
abbrev M (α : Type) := Env → Out α
def M.bind {α β : Type} (m : M α) (f : α → M β) : M β := fun ρ => match m ρ with
  | .ok a ρ' => f a ρ'
  | .exc e ρ' => .exc e ρ'
  | .bad => .bad
def M.lift {α : Type} (o : Option α) : M α := fun ρ => match o with
  | some a => .ok a ρ
  | none => .bad
inductive SOut where
  | nx (ρ : Env) | bk (ρ : Env) | ct (ρ : Env) | rt (s : Slot) | exc (e : Exn) (ρ : Env) | bad
abbrev SM := Env → SOut
def M.thenS {α : Type} (m : M α) (f : α → SM) : SM := fun ρ => match m ρ with
  | .ok a ρ' => f a ρ'
  | .exc e ρ' => .exc e ρ'
  | .bad => .bad
inductive FOut where
  | ok (s : Slot) | exc (e : Exn) | bad
abbrev FM := List D → FOut

/-- the context: the written part, the module's names, the entry's heap, its data, the wish of exceptions -/
structure Ct where
  K : Fr
  mg : Str → Option Value
  B : Hp
  F0 : Hp
  W : WX
  pp : Pin := none

def XR (K : Fr) (mg : Str → Option Value) (F H : Hp) (e : Exn) (cls : Value) (d : Option Addr) : Prop :=
  mg e.cls = some cls ∧ ((e.fs = [] ∧ d = none) ∨ ∃ dx vs, d = some dx ∧ F dx = some (.xd ((e.fs.map (·.1)).zip vs)) ∧ Reps K F (e.fs.map (·.2)) vs)

/-- a value told by a slot: what is owned is in no slot of the frame -/
def VR (c : Ct) (F H : Hp) (σ : L2.St) (ρ : Env) (s : Slot) (v : V) : Prop :=
  SlR c.K c.B F H s v ∧ (s.1 = true → ∀ (i : Nat) (d : D), ρ[i]? = some (some (true, d)) → σ[i]? ≠ some (some v))

abbrev SRc (c : Ct) (F H : Hp) (σ : L2.St) (ρ : Env) : Prop := SR c.pp c.K c.B c.F0 F H σ ρ
def Aft {α β : Type} (c : Ct) (R : Hp → Hp → L2.St → Env → α → β → Prop) (F H : Hp) (σ : L2.St) (o : Out α) (Q : β → Hp → Prop) : Prop := match o with
  | .ok a ρ' => ∀ b F' H', SRc c F' H' σ ρ' → Sub F F' → Sub H H' → R F' H' σ ρ' a b → Q b H'
  | .exc e ρ' => ∀ F' H' cls d, SRc c F' H' σ ρ' → XR c.K c.mg F' H' e cls d → c.W cls d σ H'
  | .bad => False
def tG {α β : Type} (c : Ct) (R : Hp → Hp → L2.St → Env → α → β → Prop) (A : M α) : L2.St → Hp → (β → Hp → Prop) → Prop :=
  fun σ H Q => ∃ F ρ, SRc c F H σ ρ ∧ Aft c R F H σ (A ρ) Q
section
variable {α β γ δ : Type} {c : Ct} {R : Hp → Hp → L2.St → Env → α → β → Prop} {R1 : Hp → Hp → L2.St → Env → γ → δ → Prop} {F H F1 H1 : Hp} {σ : L2.St} {ρ : Env} {o : Out α} {Q : β → Hp → Prop}
theorem Aft.up (h : Aft c R F H σ o Q) (f : Sub F F1) (g : Sub H H1) : Aft c R F1 H1 σ o Q := by
  cases o with
  | ok a ρ' => exact fun b F' H' S f' h' r => h b F' H' S (f.trans f') (g.trans h') r
  | exc e ρ' => exact h
  | bad => exact h
theorem Aft.step {A : M γ} {f : γ → M α} {Ψ : δ → Hp → Prop} (h : Aft c R F H σ (A.bind f ρ) Q)
    (k : ∀ a ρ1 x F1 H1, SRc c F1 H1 σ ρ1 → R1 F1 H1 σ ρ1 a x → Sub F F1 → Sub H H1 → Aft c R F1 H1 σ (f a ρ1) Q → Ψ x H1) : Aft c R1 F H σ (A ρ) Ψ := by
  unfold M.bind at h
  cases e : A ρ with
  | ok a ρ1 =>
    rw [e] at h
    exact fun b F' H' S f' h' r => k a ρ1 b F' H' S r f' h' (h.up f' h')
  | exc x ρ1 =>
    rw [e] at h
    exact h
  | bad =>
    rw [e] at h
    exact h.elim
theorem Aft.imp {R' : Hp → Hp → L2.St → Env → γ → δ → Prop} {A : M α} {g : α → γ} {A' : M γ} {Q' : δ → Hp → Prop} (hA : A' ρ = (match A ρ with | .ok a ρ' => .ok (g a) ρ' | .exc e ρ' => .exc e ρ' | .bad => .bad))
    (h : Aft c R' F H σ (A' ρ) Q') (k : ∀ a ρ1 b F1 H1, SRc c F1 H1 σ ρ1 → R F1 H1 σ ρ1 a b → ∃ b', R' F1 H1 σ ρ1 (g a) b' ∧ (Q' b' H1 → Q b H1)) : Aft c R F H σ (A ρ) Q := by
  rw [hA] at h
  cases e : A ρ with
  | ok a ρ1 =>
    rw [e] at h
    intro b F' H' S f' h' r
    obtain ⟨b', r', q⟩ := k a ρ1 b F' H' S r
    exact q (h b' F' H' S f' h' r')
  | exc x ρ1 =>
    rw [e] at h
    exact h
  | bad =>
    rw [e] at h
    exact h.elim
end

def rT : Hp → Hp → L2.St → Env → Bool → Bool → Prop := fun _ _ _ _ b b' => b' = b
def rP (c : Ct) : Hp → Hp → L2.St → Env → D → V → Prop := fun F H _ _ d v => PkR c.K F H d v
def PkRs (K : Fr) (F H : Hp) : List D → List V → Prop
  | [], vs => vs = []
  | d :: ds, vs => ∃ v r, vs = v :: r ∧ PkR K F H d v ∧ PkRs K F H ds r
def rPs (c : Ct) : Hp → Hp → L2.St → Env → List D → List V → Prop := fun F H _ _ d v => PkRs c.K F H d v
abbrev tE (c : Ct) (A : M Slot) : TE := tG c (VR c) A
abbrev tP (c : Ct) (A : M D) : TE := tG c (rP c) A
abbrev tT (c : Ct) (A : M Bool) : TT := tG c rT A
abbrev tPs (c : Ct) (A : M (List D)) : TA := tG c (rPs c) A

/-! ### statements -/
def SAft (c : Ct) (o : SOut) (D : Ends) : Prop := match o with
  | .nx ρ' => ∀ σ' F' H', SRc c F' H' σ' ρ' → D.nx σ' H'
  | .bk ρ' => ∀ σ' F' H', SRc c F' H' σ' ρ' → D.bk σ' H'
  | .ct ρ' => ∀ σ' F' H', SRc c F' H' σ' ρ' → D.ct σ' H'
  | .rt s => ∀ v σ' ρ' F' H', SRc c F' H' σ' ρ' → SlR c.K c.B F' H' s v → D.rt v H'
  | .exc e ρ' => ∀ σ' F' H' cls d, SRc c F' H' σ' ρ' → XR c.K c.mg F' H' e cls d → c.W cls d σ' H'
  | .bad => False
def tS (c : Ct) (S : SM) : TS := fun D σ H => ∃ F ρ, SRc c F H σ ρ ∧ SAft c (S ρ) D
section
variable {γ δ : Type} {c : Ct} {R1 : Hp → Hp → L2.St → Env → γ → δ → Prop} {F H : Hp} {σ : L2.St} {ρ : Env} {E : Ends}
theorem SAft.step {A : M γ} {f : γ → SM} {Ψ : δ → Hp → Prop} (h : SAft c (A.thenS f ρ) E)
    (k : ∀ a ρ1 x F1 H1, SRc c F1 H1 σ ρ1 → R1 F1 H1 σ ρ1 a x → Sub F F1 → Sub H H1 → SAft c (f a ρ1) E → Ψ x H1) : Aft c R1 F H σ (A ρ) Ψ := by
  unfold M.thenS at h
  cases e : A ρ with
  | ok a ρ1 =>
    rw [e] at h
    exact fun b F' H' S f' h' r => k a ρ1 b F' H' S r f' h' h
  | exc x ρ1 =>
    rw [e] at h
    exact fun F' H' cls d S x => h σ F' H' cls d S x
  | bad =>
    rw [e] at h
    exact h.elim
end

/-! ### consequence -/
theorem _root_.L2.PE.imp {X : Cx} {e : Expr} {t t' : TE} (h : PE X e t) (k : ∀ σ H Q, t' σ H Q → t σ H Q) : PE X e t' := ⟨fun pins s σ H Q I hw => h.run pins s σ H Q I (k σ H Q hw)⟩
theorem _root_.L2.PT.imp {X : Cx} {e : Expr} {t t' : TT} (h : PT X e t) (k : ∀ σ H Q, t' σ H Q → t σ H Q) : PT X e t' := ⟨fun pins s σ H Q I hw => h.run pins s σ H Q I (k σ H Q hw)⟩
theorem _root_.L2.PW.imp {X : Cx} {e : Expr} {t t' : TT} (h : PW X e t) (k : ∀ σ H Q, t' σ H Q → t σ H Q) : PW X e t' := ⟨fun wh pins s σ H Q I hw => h.run wh pins s σ H Q I (k σ H Q hw)⟩
theorem _root_.L2.PA.imp {X : Cx} {es : List Expr} {t t' : TA} (h : PA X es t) (k : ∀ σ H Q, t' σ H Q → t σ H Q) : PA X es t' := ⟨fun pos pins s σ H Q I hw => h.run pos pins s σ H Q I (k σ H Q hw)⟩
theorem _root_.L2.PS.imp {X : Cx} {s : Stmt} {t t' : TS} (h : PS X s t) (k : ∀ D σ H, t' D σ H → t D σ H) : PS X s t' := ⟨fun pins s σ H D I hw => h.run pins s σ H D I (k D σ H hw)⟩
theorem _root_.L2.PSs.imp {X : Cx} {s : List Stmt} {t t' : TS} (h : PSs X s t) (k : ∀ D σ H, t' D σ H → t D σ H) : PSs X s t' := ⟨fun pins s σ H D I hw => h.run pins s σ H D I (k D σ H hw)⟩

/-! ### names and constants -/
def ret (s : Slot) : M Slot := fun ρ => .ok s ρ
def cst (d : D) : M Slot := ret (false, d)
/-- the value of the slot i, handed on: what was owned is frozen -/
def var (i : Nat) : M Slot := fun ρ => match ρ[i]? with
  | some (some (false, d)) => .ok (false, d) ρ
  | some (some (true, d)) => .ok (false, d) (ρ.set i (some (false, d)))
  | _ => .bad
/-- .. looked at -/
def pvar (i : Nat) : M D := fun ρ => match ρ[i]? with
  | some (some (_, d)) => .ok d ρ
  | _ => .bad
def pk (A : M Slot) : M D := A.bind fun s ρ => .ok s.2 ρ

section
variable {X : Cx} {c : Ct} {e a b : Expr} {pos : Pos}
theorem e_var {i : Nat} {x : Str} (h : PE X (.Name x pos) (tVar i)) : PE X (.Name x pos) (tE c (var i)) := by
  refine h.imp fun σ H Q ⟨F, ρ, S, a⟩ => ?_
  unfold var at a
  split at a
  · rename_i d e
    obtain ⟨v, h1, h2⟩ := S.sl i _ e
    exact ⟨v, h1, a v F H S (Sub.refl _) (Sub.refl _) ⟨h2, fun z => by cases z⟩⟩
  · rename_i d e
    obtain ⟨v, h1, _⟩ := S.sl i _ e
    obtain ⟨F', S', f, r⟩ := S.freeze e h1
    exact ⟨v, h1, a v F' H S' f (Sub.refl _) ⟨r, fun z => by cases z⟩⟩
  · exact a.elim
theorem p_var {i : Nat} {x : Str} (h : PE X (.Name x pos) (tVar i)) : PE X (.Name x pos) (tP c (pvar i)) := by
  refine h.imp fun σ H Q ⟨F, ρ, S, a⟩ => ?_
  unfold pvar at a
  split at a
  · rename_i o d e
    obtain ⟨v, h1, h2⟩ := S.sl i _ e
    exact ⟨v, h1, a v F H S (Sub.refl _) (Sub.refl _) (h2.pk S.fh)⟩
  · exact a.elim
theorem e_cst {d : D} {v : V} (h : PE X e (tC v)) (r : ∀ F, Rep c.K F d v) : PE X e (tE c (cst d)) := by
  refine h.imp fun σ H Q ⟨F, ρ, S, a⟩ => ?_
  exact a v F H S (Sub.refl _) (Sub.refl _) ⟨r F, fun z => by cases z⟩
theorem e_int {i : Int} {j : Nat} : PE X (.Constant (.int i) j pos) (tE c (cst (.int i))) := e_cst pe_int fun _ => rfl
theorem e_bl {i : Bool} {j : Nat} : PE X (.Constant (.bool i) j pos) (tE c (cst (.bl i))) := e_cst pe_bl fun _ => rfl
theorem e_non {j : Nat} : PE X (.Constant .none j pos) (tE c (cst .non)) := e_cst pe_non fun _ => rfl
theorem e_str {x : Str} {s : List Nat} {j : Nat} (h : x = st s := by rfl) : PE X (.Constant (.str x) j pos) (tE c (cst (.str s))) := e_cst pe_str fun _ => by rw [h]; rfl
theorem p_of {A : M Slot} (h : PE X e (tE c A)) : PE X e (tP c (pk A)) := by
  refine h.imp fun σ H Q ⟨F, ρ, S, a⟩ => ⟨F, ρ, S, a.step fun s ρ1 x F1 H1 S1 r1 f1 h1 a1 => ?_⟩
  exact a1 x F1 H1 S1 (Sub.refl _) (Sub.refl _) (r1.1.pk S1.fh)
end

/-! ### operations on values -/
/-- what an operation tells: grown heaps, the value new -/
def VN (K : Fr) (H F' H' : Hp) (s : Slot) (v : V) : Prop := match s with
  | (false, d) => Rep K F' d v
  | (true, d) => ∃ a, v = .ref a ∧ H a = none ∧ F' a = none ∧ At K F' H' d a
theorem VN.vr {c : Ct} {F H F' H' : Hp} {σ : L2.St} {ρ : Env} {s : Slot} {v : V} (h : VN c.K H F' H' s v) (S : SRc c F H σ ρ) : VR c F' H' σ ρ s v := by
  obtain ⟨o, d⟩ := s
  cases o with
  | false => exact ⟨h, fun z => by cases z⟩
  | true =>
    obtain ⟨a, rfl, ha, fa, k⟩ := h
    refine ⟨⟨a, rfl, fa, S.bh.none ha, k⟩, fun _ i d' e1 e2 => ?_⟩
    obtain ⟨v', h1, b, rfl, _, _, k'⟩ := S.sl i _ e1
    rw [e2] at h1; cases h1
    obtain ⟨o, ho⟩ := k'.there
    rw [ha] at ho; cases ho
def OpOk (K : Fr) (f : D → D → Option Slot) (r : R2) : Prop := ∀ (F H : Hp) (d1 d2 : D) (x y : V) (s : Slot) (Q : VK), Sub F H → PkR K F H d1 x → PkR K F H d2 y → f d1 d2 = some s →
  (∀ v F' H', Grow F H F' H' → VN K H F' H' s v → Q v H') → r x y H Q
def CallOk (K : Fr) (f : List D → Option Slot) (r : List V → Hp → VK → Prop) : Prop := ∀ (F H : Hp) (ds : List D) (xs : List V) (s : Slot) (Q : VK), Sub F H → PkRs K F H ds xs → f ds = some s →
  (∀ v F' H', Grow F H F' H' → VN K H F' H' s v → Q v H') → r xs H Q
def bin (f : D → D → Option Slot) (A1 A2 : M D) : M Slot := A1.bind fun d1 => A2.bind fun d2 => M.lift (f d1 d2)
section
variable {X : Cx} {c : Ct} {e a b : Expr} {pos : Pos}
theorem Aft.lift {F H : Hp} {σ : L2.St} {ρ : Env} {o : Option Slot} {Q : VK} (h : Aft c (VR c) F H σ (M.lift o ρ) Q) (S : SRc c F H σ ρ) :
    ∃ s, o = some s ∧ ∀ v F' H', Grow F H F' H' → VN c.K H F' H' s v → Q v H' := by
  cases o with
  | none => exact h.elim
  | some s => exact ⟨s, rfl, fun v F' H' g n => h v F' H' (S.grow g) g.f g.h (n.vr S)⟩
theorem op_tr {f : D → D → Option Slot} {r : R2} {A1 A2 : M D} (ok : OpOk c.K f r) {σ : L2.St} {H : Hp} {Q : VK} (h : tE c (bin f A1 A2) σ H Q) : tOp r (tP c A1) (tP c A2) σ H Q := by
  obtain ⟨F, ρ, S, a⟩ := h
  refine ⟨F, ρ, S, a.step fun d1 ρ1 x F1 H1 S1 r1 f1 h1 a1 => ⟨F1, ρ1, S1, a1.step fun d2 ρ2 y F2 H2 S2 r2 f2 h2 a2 => ?_⟩⟩
  obtain ⟨s, e, k⟩ := a2.lift S2
  exact ok F2 H2 d1 d2 x y s Q S2.fh (r1.mono f2 h2) r2 e k
theorem e_bin {op : Operator} {f : D → D → Option Slot} {r : R2} {A1 A2 : M D} (ho : OpR X (binaryOp op) r) (ok : OpOk c.K f r) (ha : PE X a (tP c A1)) (hb : PE X b (tP c A2)) : PE X (.BinOp a op b pos) (tE c (bin f A1 A2)) :=
  (pe_op ho ha hb).imp fun _ _ _ h => op_tr ok h
theorem e_cmp {op : CmpOp} {f : D → D → Option Slot} {r : R2} {A1 A2 : M D} (ho : OpR X (compareOp op) r) (ok : OpOk c.K f r) (ha : PE X a (tP c A1)) (hb : PE X b (tP c A2)) (hm : behindInMarks op b = false) : PE X (.Compare a [op] [b] pos) (tE c (bin f A1 A2)) :=
  (pe_cmpR ho ha hb hm).imp fun _ _ _ h => op_tr ok h
/-- a bool's value as a test -/
def asB (A : M Slot) : M Bool := A.bind fun s => M.lift (match s.2 with | .bl b => some b | _ => none)
theorem Aft.liftB {F H : Hp} {σ : L2.St} {ρ : Env} {o : Option Bool} {Q : Bool → Hp → Prop} (h : Aft c rT F H σ (M.lift o ρ) Q) (S : SRc c F H σ ρ) : ∃ b, o = some b ∧ Q b H := by
  cases o with
  | none => exact h.elim
  | some s => exact ⟨s, rfl, h s F H S (Sub.refl _) (Sub.refl _) rfl⟩
theorem asB_tr {A : M Slot} {σ : L2.St} {H : Hp} {Q : Bool → Hp → Prop} (h : tT c (asB A) σ H Q) : tTest (tE c A) σ H Q := by
  obtain ⟨F, ρ, S, a⟩ := h
  refine ⟨F, ρ, S, a.step fun s ρ1 x F1 H1 S1 r1 f1 h1 a1 => ?_⟩
  obtain ⟨b, e, q⟩ := a1.liftB S1
  obtain ⟨o, d⟩ := s
  cases d with
  | bl b' =>
    cases e
    cases o with
    | false => exact ⟨_, r1.1, q⟩
    | true => obtain ⟨a, _, _, _, k⟩ := r1.1; exact k.elim
  | _ => cases e
theorem t_cmp {op : CmpOp} {f : D → D → Option Slot} {r : R2} {A1 A2 : M D} (ho : OpR X (compareOp op) r) (ok : OpOk c.K f r) (ha : PE X a (tP c A1)) (hb : PE X b (tP c A2)) (hm : behindInMarks op b = false) : PT X (.Compare a [op] [b] pos) (tT c (asB (bin f A1 A2))) := by
  refine (pt_cmpR ho ha hb hm).imp fun σ H Q h => ?_
  obtain ⟨F, ρ, S, k⟩ := asB_tr h
  exact op_tr ok ⟨F, ρ, S, k⟩
/-- the truth of a datum -/
def truth : D → Option Bool
  | .non => some false
  | .bl b => some b
  | .int i => some (i != 0)
  | .str s => if s.length ≤ sizeLine then some ((s.length : Int) != 0) else none
  | .lst xs => some (!xs.isEmpty)
  | .tup xs => some (!xs.isEmpty)
  | .dic ks xs => some (!ks.isEmpty)
  | .raw _ => none
def tru (A : M D) : M Bool := A.bind fun d => M.lift (truth d)
theorem isEmpty_len {α β : Type} {xs : List α} {ys : List β} (h : xs.length = ys.length) : xs.isEmpty = ys.isEmpty := by
  cases xs <;> cases ys <;> simp at h ⊢
theorem truth_ok {K : Fr} {F H : Hp} {d : D} {v : V} {b : Bool} (fh : Sub F H) (r : PkR K F H d v) (e : truth d = some b) : TruV K v H b := by
  cases d with
  | non => cases e; have r : v = .non := r; subst r; rfl
  | bl _ => cases e; have r : v = .bl b := r; subst r; rfl
  | int i => cases e; have r : v = .int i := r; subst r; rfl
  | str s =>
    have r : v = .str (st s) := r
    subst r
    have e' : (if s.length ≤ sizeLine then some ((s.length : Int) != 0) else none) = some b := e
    by_cases hs : s.length ≤ sizeLine
    · rw [if_pos hs] at e'
      cases e'
      exact ⟨hs, rfl⟩
    · rw [if_neg hs] at e'
      cases e'
  | lst xs =>
    cases e
    obtain ⟨a, vs, rfl, s, rs⟩ := r
    exact .inl ⟨vs, .inl s, by rw [isEmpty_len rs.length]⟩
  | tup xs =>
    cases e
    have r' : Rep K F (.tup xs) v := r
    unfold Rep at r'
    obtain ⟨a, vs, rfl, s, rs⟩ := r'
    exact .inr (.inl ⟨vs, fh.sqT s, by rw [isEmpty_len rs.length]⟩)
  | dic ks xs =>
    cases e
    obtain ⟨a, vs, rfl, s, l, rs⟩ := r
    refine .inr (.inr ⟨_, s, ?_⟩)
    rw [isEmpty_len (show ks.length = (ks.zip vs).length by rw [List.length_zip, l, Nat.min_self])]
  | raw u => cases e
theorem t_tru {A : M D} (hk : c.K = X.K) (h : PE X e (tP c A)) (he : ∀ whole, isTrue e X.env whole = (do let v ← whole; standAt e.pos; holding [v] (truthy v))) : PT X e (tT c (tru A)) := by
  refine (pt_truth h he).imp fun σ H Q ⟨F, ρ, S, a⟩ => ⟨F, ρ, S, a.step fun d ρ1 x F1 H1 S1 r1 f1 h1 a1 => ?_⟩
  obtain ⟨b, e, q⟩ := a1.liftB S1
  exact ⟨b, hk ▸ truth_ok S1.fh r1 e, q⟩
/-! ### and, or, not, if .. else -/
def tand (A1 A2 : M Bool) : M Bool := A1.bind fun b => if b = true then A2 else fun ρ => .ok false ρ
def tor (A1 A2 : M Bool) : M Bool := A1.bind fun b => if b = true then fun ρ => .ok true ρ else A2
def tnot (A : M Bool) : M Bool := A.bind fun b ρ => .ok (!b) ρ
variable {A1 A2 : M Bool} {rest : List Expr}
theorem w_and1 (ha : PT X a (tT c A1)) : PW X (.BoolOp .And [a] pos) (tT c A1) := pw_and1 ha
theorem w_or1 (ha : PT X a (tT c A1)) : PW X (.BoolOp .Or [a] pos) (tT c A1) := pw_or1 ha
theorem w_and (ha : PT X a (tT c A1)) (hb : PW X (.BoolOp .And (b :: rest) pos) (tT c A2)) : PW X (.BoolOp .And (a :: b :: rest) pos) (tT c (tand A1 A2)) := by
  refine (pw_and ha hb).imp fun σ H Q ⟨F, ρ, S, k⟩ => ⟨F, ρ, S, k.step fun d ρ1 x F1 H1 S1 r1 f1 h1 a1 => ?_⟩
  have r1 : x = d := r1
  subst r1
  cases x with
  | true => exact ⟨F1, ρ1, S1, a1⟩
  | false => exact a1 false F1 H1 S1 (Sub.refl _) (Sub.refl _) rfl
theorem w_or (ha : PT X a (tT c A1)) (hb : PW X (.BoolOp .Or (b :: rest) pos) (tT c A2)) : PW X (.BoolOp .Or (a :: b :: rest) pos) (tT c (tor A1 A2)) := by
  refine (pw_or ha hb).imp fun σ H Q ⟨F, ρ, S, k⟩ => ⟨F, ρ, S, k.step fun d ρ1 x F1 H1 S1 r1 f1 h1 a1 => ?_⟩
  have r1 : x = d := r1
  subst r1
  cases x with
  | false => exact ⟨F1, ρ1, S1, a1⟩
  | true => exact a1 true F1 H1 S1 (Sub.refl _) (Sub.refl _) rfl
theorem t_not (ha : PT X a (tT c A1)) : PT X (.UnaryOp .Not a pos) (tT c (tnot A1)) := by
  refine (pt_not ha).imp fun σ H Q ⟨F, ρ, S, k⟩ => ⟨F, ρ, S, k.step fun d ρ1 x F1 H1 S1 r1 f1 h1 a1 => ?_⟩
  have r1 : x = d := r1
  subst r1
  exact a1 _ F1 H1 S1 (Sub.refl _) (Sub.refl _) rfl
/-- as values -/
def vand (A1 A2 : M Slot) : M Slot := (asB A1).bind fun b => if b = true then A2 else ret (false, .bl false)
def vor (A1 A2 : M Slot) : M Slot := (asB A1).bind fun b => if b = true then ret (false, .bl true) else A2
def vnot (A : M Slot) : M Slot := (asB A).bind fun b => ret (false, .bl (!b))
variable {E1 E2 : M Slot}
theorem asB_step {γ : Type} {β : Type} {R : Hp → Hp → L2.St → Env → γ → β → Prop} {F H : Hp} {σ : L2.St} {ρ : Env} {Q : β → Hp → Prop} {f : Bool → M γ} {Ψ : V → Hp → Prop} (S : SRc c F H σ ρ) (h : Aft c R F H σ (((asB E1).bind f) ρ) Q)
    (k : ∀ b ρ1 F1 H1, SRc c F1 H1 σ ρ1 → Sub F F1 → Sub H H1 → Aft c R F1 H1 σ (f b ρ1) Q → Ψ (.bl b) H1) : tE c E1 σ H Ψ := by
  have h' : tT c (asB E1) σ H (fun b H1 => Ψ (.bl b) H1) := ⟨F, ρ, S, h.step fun b ρ1 x F1 H1 S1 r1 f1 h1 a1 => by
    have r1 : x = b := r1
    subst r1
    exact k x ρ1 F1 H1 S1 f1 h1 a1⟩
  obtain ⟨F', ρ', S', h2⟩ := asB_tr h'
  refine ⟨F', ρ', S', ?_⟩
  cases e : E1 ρ' with
  | ok s ρ1 =>
    rw [e] at h2
    intro v F2 H2 S2 f2 g2 r2
    obtain ⟨k, ek, q⟩ := h2 v F2 H2 S2 f2 g2 r2
    rw [ek]; exact q
  | exc x ρ1 => rw [e] at h2; exact h2
  | bad => rw [e] at h2; exact h2
theorem v_one {op : BoolOp} (ha : PE X a (tE c E1)) : PE X (.BoolOp op [a] pos) (tE c E1) := pe_one ha
theorem v_and (ha : PE X a (tE c E1)) (hb : PE X (.BoolOp .And (b :: rest) pos) (tE c E2)) : PE X (.BoolOp .And (a :: b :: rest) pos) (tE c (vand E1 E2)) := by
  refine (pe_and ha hb).imp fun σ H Q ⟨F, ρ, S, k⟩ => asB_step S k fun b ρ1 F1 H1 S1 f1 h1 a1 => ⟨b, rfl, ?_⟩
  cases b with
  | true => exact ⟨F1, ρ1, S1, a1⟩
  | false => exact a1 _ F1 H1 S1 (Sub.refl _) (Sub.refl _) ⟨rfl, fun z => by cases z⟩
theorem v_or (ha : PE X a (tE c E1)) (hb : PE X (.BoolOp .Or (b :: rest) pos) (tE c E2)) : PE X (.BoolOp .Or (a :: b :: rest) pos) (tE c (vor E1 E2)) := by
  refine (pe_or ha hb).imp fun σ H Q ⟨F, ρ, S, k⟩ => asB_step S k fun b ρ1 F1 H1 S1 f1 h1 a1 => ⟨b, rfl, ?_⟩
  cases b with
  | false => exact ⟨F1, ρ1, S1, a1⟩
  | true => exact a1 _ F1 H1 S1 (Sub.refl _) (Sub.refl _) ⟨rfl, fun z => by cases z⟩
theorem v_not (ha : PE X a (tE c E1)) : PE X (.UnaryOp .Not a pos) (tE c (vnot E1)) := by
  refine (pe_not ha).imp fun σ H Q ⟨F, ρ, S, k⟩ => asB_step S k fun b ρ1 F1 H1 S1 f1 h1 a1 => ⟨b, rfl, ?_⟩
  exact a1 _ F1 H1 S1 (Sub.refl _) (Sub.refl _) ⟨rfl, fun z => by cases z⟩
def iff {α : Type} (T : M Bool) (E1 E2 : M α) : M α := T.bind fun b => if b = true then E1 else E2
theorem e_iff {t : Expr} (ht : PT X t (tT c A1)) (ha : PE X a (tE c E1)) (hb : PE X b (tE c E2)) : PE X (.IfExp t a b pos) (tE c (iff A1 E1 E2)) := by
  refine (pe_ifExp ht ha hb).imp fun σ H Q ⟨F, ρ, S, k⟩ => ⟨F, ρ, S, k.step fun d ρ1 x F1 H1 S1 r1 f1 h1 a1 => ?_⟩
  have r1 : x = d := r1
  subst r1
  cases x with
  | true => exact ⟨F1, ρ1, S1, a1⟩
  | false => exact ⟨F1, ρ1, S1, a1⟩
end
end PM
namespace PM
open PySem L2 PyProof.Rows

/-! ### lists that may be read -/
theorem _root_.L2.Inv.lstR {X : Cx} {pins : List (Addr × Obj)} {σ : L2.St} {H : Hp} {s : Shared} {l : Addr} {xs : List V} (I : Inv X pins σ H s) (hH : Rd H l (.lst xs)) :
    xs.length ≤ sizeLine ∧ ∃ (its : List Value) (n : Nat), Vals xs its ∧ xs.length = its.length ∧ s.heap.get? l = some { cls := .type "list", data := .seq its.toArray n } := by
  obtain ⟨z, its, n, r, e⟩ := hH.ok I.hok
  exact ⟨z, its, n, r, r.length, e⟩
def rCatR : R2 := fun x y H Q => ∃ l b xs zs, x = .ref l ∧ y = .ref b ∧ Rd H l (.lst xs) ∧ Rd H b (.lst zs) ∧ xs.length + zs.length ≤ sizeLine ∧ ∀ p, H p = none → Q (.ref p) (upd H p (.lst (xs ++ zs)))
theorem op_catR {X : Cx} : OpR X (binaryOp .Add) rCatR := by
  intro pins s σ H x y v u Q I rx ry h
  obtain ⟨l, b, xs, zs, rfl, rfl, hH, hB, hz, q⟩ := h
  cases rx
  cases ry
  obtain ⟨z, its, n, r, hl, e⟩ := I.lstR hH
  obtain ⟨z2, its2, n2, r2, hl2, e2⟩ := I.lstR hB
  refine PySem.P.add_list e e2 ?_ (by rw [List.size_toArray, List.size_toArray]; omega)
  have ea : its.toArray ++ its2.toArray = (its ++ its2).toArray := by simp
  rw [ea]
  exact ⟨.ref _, _, I.lnew (t' := s.toks) (r.append r2) (by rw [List.length_append]; omega), rfl, q _ I.fresh⟩
def rRepR : R2 := fun x y H Q => ∃ l k xs, x = .ref l ∧ y = .int k ∧ Rd H l (.lst xs) ∧ -(2 ^ 63) ≤ k ∧ k < 2 ^ 63 ∧ xs.length * k.toNat ≤ sizeLine ∧
  ∀ p, H p = none → Q (.ref p) (upd H p (.lst (List.replicate k.toNat xs).flatten))
theorem op_repR {X : Cx} : OpR X (binaryOp .Mult) rRepR := by
  intro pins s σ H x y v u Q I rx ry h
  obtain ⟨l, k, xs, rfl, rfl, hH, h1, h2, hz, q⟩ := h
  cases rx
  obtain ⟨t, rfl⟩ := ry
  obtain ⟨z, its, n, r, hl, e⟩ := I.lstR hH
  have hlen : its.toArray.size * k.toNat ≤ sizeLine := by rw [List.size_toArray, ← hl]; exact hz
  have hcap : ¬ its.toArray.size * k.toNat > (2 ^ 63 - 1) / 8 := by
    have : (sizeLine : Nat) ≤ (2 ^ 63 - 1) / 8 := by decide
    omega
  have hfit : ¬ (!Builtin.List.listFitsIndex k) = true := by
    rw [fitsIndex_both h1 h2]
    exact Bool.false_ne_true
  have hlong : ¬ Builtin.List.listTooLong (its.toArray.size * k.toNat) = true := by
    rw [notLongL hlen]
    exact Bool.false_ne_true
  have hnew : List.foldl (fun x1 x2 => x1 ++ x2) #[] (List.replicate (if its.toArray.isEmpty = true then 0 else k.toNat) its.toArray) = (List.replicate k.toNat its).flatten.toArray := by
    have f0 : ∀ m : Nat, List.foldl (fun x1 x2 => x1 ++ x2) #[] (List.replicate m its.toArray) = (List.replicate m its).flatten.toArray := fun m => by
      have := foldl_rep its m []
      rw [List.nil_append] at this
      exact this
    rw [f0]
    cases its with
    | nil => simp
    | cons a r' => rw [if_neg (by simp)]
  refine wpAny_binaryOp_repeat_ref (T := "list") (U := "int") (by decide) ⟨_, e, rfl⟩ (fun s' => typeIs_int s' k t) noFill_list_mul F.fills_int_mul F.slot_int_rmul repeat_list F.slot_int_index.lookup
    (call_meets F.slot_int_rmul (typeIs_int s k t) F.entry_int_rmul (F.args_int_rmul_2 _ _) (int___rmul___int_list k t l its.toArray n)
      ⟨e, rfl, ⟨_, e, rfl⟩, call_meets F.slot_list_mul ⟨_, e, rfl⟩ F.entry_list_mul (F.args_list_mul_2 _ _) (AutoListH.list___mul___list_int_3 l its.toArray n k t hfit hcap hlong) ⟨e, ?_⟩⟩)
  rw [hnew]
  exact ⟨.ref _, _, I.lnew (t' := s.toks) (r.rep k.toNat) (by rw [PyProof.Rows.lm_len_rep_flat, Nat.mul_comm]; exact hz), rfl, q _ I.fresh⟩

/-! ### what a result needs -/
section
variable {K : Fr} {F H : Hp}
theorem vn0 {d : D} {v : V} {Q : VK} (fh : Sub F H) (r : Rep K F d v) (k : ∀ v F' H', Grow F H F' H' → VN K H F' H' (false, d) v → Q v H') : Q v H := k v F H (Grow.refl fh) r
theorem vnI {i : Int} {Q : VK} (fh : Sub F H) (k : ∀ v F' H', Grow F H F' H' → VN K H F' H' (false, .int i) v → Q v H') : Q (.int i) H := k _ F H (Grow.refl fh) rfl
theorem vnB {i : Bool} {Q : VK} (fh : Sub F H) (k : ∀ v F' H', Grow F H F' H' → VN K H F' H' (false, .bl i) v → Q v H') : Q (.bl i) H := k _ F H (Grow.refl fh) rfl
theorem vnS {i : List Nat} {Q : VK} (fh : Sub F H) (k : ∀ v F' H', Grow F H F' H' → VN K H F' H' (false, .str i) v → Q v H') : Q (.str (st i)) H := k _ F H (Grow.refl fh) rfl
theorem vnL {p : Addr} {ds : List D} {vs : List V} {Q : VK} (fh : Sub F H) (hp : H p = none) (r : Reps K F ds vs) (k : ∀ v F' H', Grow F H F' H' → VN K H F' H' (true, .lst ds) v → Q v H') : Q (.ref p) (upd H p (.lst vs)) :=
  k _ F _ ⟨Sub.refl _, Sub.upd hp, fh.trans (Sub.upd hp), fun _ _ e => .inl e⟩ ⟨p, rfl, hp, fh.none hp, vs, upd_same, r⟩
theorem growT {p : Addr} {o : HO} (fh : Sub F H) (hp : H p = none) : Grow F H (upd F p o) (upd H p o) where
  f := Sub.upd (fh.none hp)
  h := Sub.upd hp
  fh := fun a u e => by
    by_cases z : a = p
    · subst z; rw [upd_same] at e ⊢; exact e
    · rw [upd_ne z] at e ⊢; exact fh a u e
  new := fun a u e => by
    by_cases z : a = p
    · subst z; exact .inr hp
    · rw [upd_ne z] at e; exact .inl e
theorem vnT {p : Addr} {ds : List D} {vs : List V} {Q : VK} (fh : Sub F H) (hp : H p = none) (r : Reps K F ds vs) (k : ∀ v F' H', Grow F H F' H' → VN K H F' H' (false, .tup ds) v → Q v H') : Q (.ref p) (upd H p (.tup vs)) :=
  k _ _ _ (growT fh hp) (by
    show Rep K _ (.tup ds) _
    unfold Rep
    exact ⟨p, vs, rfl, .inl (.inl upd_same), Reps.mono (Sub.upd (fh.none hp)) _ _ r⟩)
theorem pkTup {ds : List D} {v : V} (h : PkR K F H (.tup ds) v) : ∃ a vs, v = .ref a ∧ SqT K F a vs ∧ Reps K F ds vs := by
  have h' : Rep K F (.tup ds) v := h
  unfold Rep at h'
  exact h'
theorem repTup {ds : List D} {a : Addr} {vs : List V} (h : SqT K F a vs) (r : Reps K F ds vs) : Rep K F (.tup ds) (.ref a) := by
  unfold Rep; exact ⟨a, vs, rfl, h, r⟩
theorem reps_nil_iff {ds : List D} {vs : List V} (r : Reps K F ds vs) : vs = [] ↔ ds = [] := by
  have := r.length
  constructor
  · intro e; subst e; exact List.length_eq_zero_iff.mp (by simpa using this)
  · intro e; subst e; exact r.inv0

/-! ### + -/
def addD : D → D → Option Slot
  | .int i, .int j => some (false, .int (i + j))
  | .str s, .str t => if s.length + t.length ≤ sizeLine then some (false, .str (s ++ t)) else none
  | .lst a, .lst b => if a.length + b.length ≤ sizeLine then some (true, .lst (a ++ b)) else none
  | .tup a, .tup b => if a.length + b.length ≤ sizeLine then some (false, .tup (a ++ b)) else none
  | .int i, .bl k => some (false, .int (i + b2i k))
  | _, _ => none
def rAddS : R2 := fun x y H Q => ∃ i j, x = .str i ∧ y = .str j ∧ i.length + j.length ≤ sizeLine ∧ Q (.str (i ++ j)) H
def rAddB : R2 := fun x y H Q => ∃ i k, x = .int i ∧ y = .bl k ∧ Q (.int (i + b2i k)) H
def rAddI : R2 := rI0 fun i j => .int (i + j)
def rAddA (K : Fr) : R2 := fun x y H Q => rAddI x y H Q ∨ (rAddS x y H Q ∨ (rCatR x y H Q ∨ (rCatA K x y H Q ∨ rAddB x y H Q)))
theorem st_app (s t : List Nat) : st s ++ st t = st (s ++ t) := by
  show (⟨s.toArray ++ t.toArray⟩ : Str) = ⟨(s ++ t).toArray⟩
  simp
theorem op_addA {X : Cx} : OpR X (binaryOp .Add) (rAddA X.K) := OpR.or (r := rAddI) op_add (OpR.or (r := rAddS) op_add_str (OpR.or op_catR (OpR.or (r := rCatA X.K) op_catA (op_add_ib (X := X)))))
theorem ok_add : OpOk K addD (rAddA K) := by
  intro F H d1 d2 x y s Q fh r1 r2 e k
  unfold addD at e
  split at e
  · cases e
    exact .inl ⟨_, _, r1, r2, vnI fh k⟩
  · split at e
    · cases e
      rename_i s t hz
      exact .inr (.inl ⟨_, _, r1, r2, hz, by rw [st_app]; exact vnS fh k⟩)
    · cases e
  · split at e
    · cases e
      obtain ⟨a, vs, e1, h1, k1⟩ := r1
      obtain ⟨b, us, e2, h2, k2⟩ := r2
      rename_i hz
      exact .inr (.inr (.inl ⟨a, b, vs, us, e1, e2, h1, h2, by rw [← k1.length, ← k2.length]; exact hz, fun p hp => vnL fh hp (k1.append k2) k⟩))
    · cases e
  · split at e
    · cases e
      obtain ⟨a, vs, e1, h1, k1⟩ := pkTup r1
      obtain ⟨b, us, e2, h2, k2⟩ := pkTup r2
      rename_i hz
      refine .inr (.inr (.inr (.inl ⟨a, b, vs, us, e1, e2, fh.sqT h1, fh.sqT h2, by rw [← k1.length, ← k2.length]; exact hz, fun z => ?_, fun _ z => ?_, fun _ _ p hp => vnT fh hp (k1.append k2) k⟩)))
      · have z := (reps_nil_iff k1).mp z
        subst z
        exact vn0 fh (repTup h2 k2) k
      · have z := (reps_nil_iff k2).mp z
        subst z
        rw [List.append_nil] at k
        exact vn0 fh (repTup h1 k1) k
    · cases e
  · cases e
    exact .inr (.inr (.inr (.inr ⟨_, _, r1, r2, vnI fh k⟩)))
  · cases e

/-! ### the other operators of ints; list times int -/
def subD : D → D → Option Slot
  | .int i, .int j => some (false, .int (i - j))
  | _, _ => none
theorem ok_sub : OpOk K subD (rI0 fun i j => .int (i - j)) := by
  intro F H d1 d2 x y s Q fh r1 r2 e k
  unfold subD at e
  split at e
  · cases e
    exact ⟨_, _, r1, r2, vnI fh k⟩
  · cases e
/-- sizes for which a product of ints is known to be made -/
def mulOk (i j : Int) : Bool := decide (i.natAbs.log2 + j.natAbs.log2 < 1000000) || (decide (-(2 ^ 64) < i ∧ i < 2 ^ 64) || decide (-(2 ^ 64) < j ∧ j < 2 ^ 64))
def strRep (s : List Nat) (k : Nat) : List Nat := (List.replicate k s).flatten
def mulD : D → D → Option Slot
  | .int i, .int j => if mulOk i j then some (false, .int (i * j)) else none
  | .lst a, .int k => if a.length * k.toNat ≤ sizeLine ∧ -(2 ^ 63) ≤ k ∧ k < 2 ^ 63 then some (true, .lst (List.replicate k.toNat a).flatten) else none
  | .str a, .int k => if a.length * k.toNat ≤ sizeLine ∧ -(2 ^ 62) ≤ k ∧ k < 2 ^ 62 then some (false, .str (strRep a k.toNat)) else none
  | _, _ => none
def rMulI : R2 := rI (fun i j => CMulW i j ∨ CMul i j) fun i j => .int (i * j)
def rMulS : R2 := fun x y H Q => ∃ a k, x = .str (st a) ∧ y = .int k ∧ a.length * k.toNat ≤ sizeLine ∧ -(2 ^ 62) ≤ k ∧ k < 2 ^ 62 ∧ Q (.str (st (strRep a k.toNat))) H
theorem fold_reps (a : List Nat) : ∀ (k : Nat) (acc : List Nat), List.foldl (fun x1 x2 => x1 ++ x2) acc.toArray (List.replicate k a.toArray) = (acc ++ (List.replicate k a).flatten).toArray
  | 0, acc => by simp
  | k + 1, acc => by
    rw [List.replicate_succ, List.foldl_cons, List.append_toArray, fold_reps a k, List.replicate_succ, List.flatten_cons, List.append_assoc]
theorem txt_mul {a : List Nat} {k : Int} : Txt.mul (st a) k = st (strRep a k.toNat) := by
  unfold Txt.mul strRep
  by_cases h : k < 1
  · rw [if_pos h, show k.toNat = 0 by omega]
    rfl
  · rw [if_neg h]
    by_cases h2 : k = 1
    · subst h2
      simp [st]
    · by_cases h3 : a = []
      · subst h3
        simp [st, Str.length]
      · have h3' : a.length ≠ 0 := fun z => h3 (List.length_eq_zero_iff.mp z)
        rw [if_neg (by simp [st, Str.length, h2, h3])]
        have := fold_reps a k.toNat []
        rw [List.nil_append] at this
        show Str.mk _ = Str.mk _
        rw [show (#[] : Array Nat) = ([] : List Nat).toArray from rfl]
        rw [show (st a).cps = a.toArray from rfl, this]
theorem op_mulS {X : Cx} : OpR X (binaryOp .Mult) rMulS := by
  intro pins s σ H x y v u Q I rx ry h
  obtain ⟨a, k, rfl, rfl, hz, h1, h2, q⟩ := h
  obtain ⟨t, rfl⟩ := rx
  obtain ⟨t', rfl⟩ := ry
  have hl : (st a).length = a.length := by simp [st, Str.length]
  refine SB.mul ⟨?_, fun g1 g2 => ?_, fun g1 g2 => ?_⟩ fun t' k' => ⟨.str (st (strRep a k.toNat)), H, I.tok _, ⟨t', by rw [txt_mul]⟩, q⟩
  · have e1 : decide (k < -(2 ^ 63 : Int)) = false := decide_eq_false (by omega)
    have e2 : decide (k ≥ 2 ^ 63) = false := decide_eq_false (by omega)
    rw [e1, e2, Bool.or_false]
  · rw [hl]
    have g : (a.length : Int) * k ≤ 16777216 := by
      have : ((a.length * k.toNat : Nat) : Int) ≤ 16777216 := by
        have : (sizeLine : Nat) = 16777216 := rfl
        omega
      rw [Int.natCast_mul, Int.toNat_of_nonneg (by omega)] at this
      exact this
    have g3 : ((2 : Int) ^ 63 - 1) / k ≥ 1 := by
      have : (1 : Int) ≤ ((2 : Int) ^ 63 - 1) / k := by
        rw [Int.le_ediv_iff_mul_le (by omega)]
        omega
      exact this
    have : (a.length : Int) ≤ ((2 : Int) ^ 63 - 1) / k := by
      rw [Int.le_ediv_iff_mul_le (by omega)]
      omega
    omega
  · rw [hl]
    unfold Builtin.Str.tooLong
    exact decide_eq_false (by omega)
def rMulA : R2 := fun x y H Q => rMulI x y H Q ∨ (rRepR x y H Q ∨ rMulS x y H Q)
theorem op_mulI2 {X : Cx} : OpR X (binaryOp .Mult) rMulI := by
  intro pins s σ H x y v u Q I rx ry h
  obtain ⟨i, j, e1, e2, hc | hc, q⟩ := h
  · exact op_mulW pins s σ H x y v u Q I rx ry ⟨i, j, e1, e2, hc, q⟩
  · exact op_mul pins s σ H x y v u Q I rx ry ⟨i, j, e1, e2, hc, q⟩
theorem op_mulA {X : Cx} : OpR X (binaryOp .Mult) rMulA := OpR.or (r := rMulI) op_mulI2 (OpR.or op_repR op_mulS)
theorem Reps.rep {ds : List D} {vs : List V} (r : Reps K F ds vs) : ∀ k : Nat, Reps K F (List.replicate k ds).flatten (List.replicate k vs).flatten
  | 0 => Reps.nil
  | k + 1 => by
    rw [List.replicate_succ, List.replicate_succ, List.flatten_cons, List.flatten_cons]
    exact r.append (Reps.rep r k)
theorem mulOk_c {i j : Int} (h : mulOk i j = true) : CMulW i j ∨ CMul i j := by
  unfold mulOk at h
  rcases Bool.or_eq_true_iff.mp h with h | h
  · exact .inl (of_decide_eq_true (p := _ < 1000000) h)
  · rcases Bool.or_eq_true_iff.mp h with h | h
    · exact .inr (.inl (of_decide_eq_true h))
    · exact .inr (.inr (of_decide_eq_true h))
theorem ok_mul : OpOk K mulD rMulA := by
  intro F H d1 d2 x y s Q fh r1 r2 e k
  unfold mulD at e
  split at e
  · split at e
    · cases e
      rename_i hm
      exact .inl ⟨_, _, r1, r2, mulOk_c hm, vnI fh k⟩
    · cases e
  · split at e
    · cases e
      rename_i hz
      obtain ⟨a, vs, e1, h1, k1⟩ := r1
      exact .inr (.inl ⟨a, _, vs, e1, r2, h1, hz.2.1, hz.2.2, by rw [← k1.length]; exact hz.1, fun p hp => vnL fh hp (k1.rep _) k⟩)
    · cases e
  · split at e
    · cases e
      rename_i hz
      exact .inr (.inr ⟨_, _, r1, r2, hz.1, hz.2.1, hz.2.2, vnS fh k⟩)
    · cases e
  · cases e
def fdivD : D → D → Option Slot
  | .int i, .int j => if 0 < j ∧ j.natAbs.log2 < 9000 then some (false, .int (i / j)) else if j < 0 ∧ j.natAbs.log2 < 9000 then some (false, .int (i.fdiv j)) else none
  | _, _ => none
def CDivX (i j : Int) : Prop := j ≠ 0 ∧ j.natAbs.log2 < 9000
theorem op_fdivX {X : Cx} : OpR X (binaryOp .FloorDiv) (rI CDivX fun i j => .int (i.fdiv j)) := opI fun _ _ _ _ _ _ _ hc q => PyProof.Rows.floordiv_int hc.1 q (.inl (PyProof.noPylong_of_log2 hc.2))
theorem ok_fdivX : OpOk K fdivD (rI CDivX fun i j => .int (i.fdiv j)) := by
  intro F H d1 d2 x y s Q fh r1 r2 e k
  unfold fdivD at e
  split at e
  · split at e
    · cases e
      rename_i hm
      refine ⟨_, _, r1, r2, ⟨by omega, hm.2⟩, ?_⟩
      show Q (.int (Int.fdiv _ _)) H
      rw [Int.fdiv_eq_ediv_of_nonneg _ (Int.le_of_lt hm.1)]
      exact vnI fh k
    · split at e
      · cases e
        rename_i hm
        exact ⟨_, _, r1, r2, ⟨by omega, hm.2⟩, vnI fh k⟩
      · cases e
  · cases e
theorem iop_fdivX {X : Cx} : OpR X (inplaceOp .FloorDiv) (rI CDivX fun i j => .int (i.fdiv j)) := opI fun _ _ _ _ _ _ _ hc q => PyProof.Rows.ifloordiv_int hc.1 q (.inl (PyProof.noPylong_of_log2 hc.2))
def modD : D → D → Option Slot
  | .int i, .int j => if 0 < j then some (false, .int (i % j)) else none
  | _, _ => none
theorem ok_mod : OpOk K modD (rI (fun _ j => 0 < j) fun i j => .int (i % j)) := by
  intro F H d1 d2 x y s Q fh r1 r2 e k
  unfold modD at e
  split at e
  · split at e
    · cases e
      rename_i hm
      exact ⟨_, _, r1, r2, hm, vnI fh k⟩
    · cases e
  · cases e
def powD : D → D → Option Slot
  | .int i, .int j => if 0 ≤ j ∧ j ≤ 1000000 ∧ i.natAbs < 2 ^ 64 then some (false, .int (i ^ j.toNat)) else none
  | _, _ => none
theorem ok_pow : OpOk K powD (rI CPow fun i j => .int (i ^ j.toNat)) := by
  intro F H d1 d2 x y s Q fh r1 r2 e k
  unfold powD at e
  split at e
  · split at e
    · cases e
      rename_i hm
      exact ⟨_, _, r1, r2, hm, vnI fh k⟩
    · cases e
  · cases e
def shlD : D → D → Option Slot
  | .int i, .int j => if 0 ≤ j ∧ j ≤ 1000000 ∧ i.natAbs < 2 ^ 64 then some (false, .int (i * 2 ^ j.toNat)) else none
  | _, _ => none
theorem ok_shl : OpOk K shlD (rI CPow fun i j => .int (i * 2 ^ j.toNat)) := by
  intro F H d1 d2 x y s Q fh r1 r2 e k
  unfold shlD at e
  split at e
  · split at e
    · cases e
      rename_i hm
      exact ⟨_, _, r1, r2, hm, vnI fh k⟩
    · cases e
  · cases e
def shrD : D → D → Option Slot
  | .int i, .int j => if 0 ≤ j then some (false, .int (i / 2 ^ j.toNat)) else none
  | _, _ => none
theorem ok_shr : OpOk K shrD (rI (fun _ j => 0 ≤ j) fun i j => .int (i / 2 ^ j.toNat)) := by
  intro F H d1 d2 x y s Q fh r1 r2 e k
  unfold shrD at e
  split at e
  · split at e
    · cases e
      rename_i hm
      exact ⟨_, _, r1, r2, hm, vnI fh k⟩
    · cases e
  · cases e
def bitD (f : Int → Int → Int) : D → D → Option Slot
  | .int i, .int j => some (false, .int (f i j))
  | _, _ => none
theorem ok_bit {f : Int → Int → Int} : OpOk K (bitD f) (rI0 fun i j => .int (f i j)) := by
  intro F H d1 d2 x y s Q fh r1 r2 e k
  unfold bitD at e
  split at e
  · cases e
    exact ⟨_, _, r1, r2, vnI fh k⟩
  · cases e

/-! ### comparisons -/
def ltL : List Nat → List Nat → Bool
  | _, [] => false
  | [], _ :: _ => true
  | a :: r, b :: t => decide (a < b) || (decide (a = b) && ltL r t)
theorem ltL_iff : ∀ {a b : List Nat}, ltL a b = true ↔ a < b
  | [], [] => by simp [ltL]
  | _ :: _, [] => by simp [ltL]
  | [], _ :: _ => by simp [ltL]
  | a :: r, b :: t => by
    rw [List.cons_lt_cons_iff]
    simp [ltL, ltL_iff (a := r) (b := t)]
theorem ltL_eq {a b : List Nat} : decide (a < b) = ltL a b := by
  by_cases h : a < b
  · rw [decide_eq_true h, ltL_iff.mpr h]
  · rw [decide_eq_false h]
    cases q : ltL a b with
    | false => rfl
    | true => exact absurd (ltL_iff.mp q) h
def cmpD (f : Int → Int → Bool) (g : List Nat → List Nat → Bool) : D → D → Option Slot
  | .int i, .int j => some (false, .bl (f i j))
  | .str i, .str j => some (false, .bl (g i j))
  | _, _ => none
def rCmp (f : Int → Int → Bool) (g : List Nat → List Nat → Bool) : R2 := fun x y H Q => (∃ i j, x = .int i ∧ y = .int j ∧ Q (.bl (f i j)) H) ∨ (∃ i j, x = .str i ∧ y = .str j ∧ Q (.bl (g i.cps.toList j.cps.toList)) H)
theorem ok_cmp {f : Int → Int → Bool} {g : List Nat → List Nat → Bool} : OpOk K (cmpD f g) (rCmp f g) := by
  intro F H d1 d2 x y s Q fh r1 r2 e k
  unfold cmpD at e
  split at e
  · cases e
    exact .inl ⟨_, _, r1, r2, vnB fh k⟩
  · cases e
    exact .inr ⟨_, _, r1, r2, vnB fh k⟩
  · cases e
def ltD : D → D → Option Slot := cmpD (fun i j => decide (i < j)) ltL
def leD : D → D → Option Slot := cmpD (fun i j => decide (i ≤ j)) (fun a b => !ltL b a)
def gtD : D → D → Option Slot := cmpD (fun i j => decide (j < i)) (fun a b => ltL b a)
def geD : D → D → Option Slot := cmpD (fun i j => decide (j ≤ i)) (fun a b => !ltL a b)
theorem op_ltA {X : Cx} : OpR X (compareOp .Lt) (rCmp (fun i j => decide (i < j)) ltL) := OpR.or (r := fun x y H Q => ∃ i j, x = .int i ∧ y = .int j ∧ Q (.bl (decide (i < j))) H) op_lt fun pins s σ H x y v u Q I rx ry ⟨i, j, e1, e2, q⟩ => op_lt_str pins s σ H x y v u Q I rx ry ⟨i, j, e1, e2, by rw [ltL_eq]; exact q⟩
theorem op_leA {X : Cx} : OpR X (compareOp .LtE) (rCmp (fun i j => decide (i ≤ j)) (fun a b => !ltL b a)) := OpR.or (r := fun x y H Q => ∃ i j, x = .int i ∧ y = .int j ∧ Q (.bl (decide (i ≤ j))) H) op_le fun pins s σ H x y v u Q I rx ry ⟨i, j, e1, e2, q⟩ => op_le_str pins s σ H x y v u Q I rx ry ⟨i, j, e1, e2, by rw [ltL_eq]; exact q⟩
theorem op_gtA {X : Cx} : OpR X (compareOp .Gt) (rCmp (fun i j => decide (j < i)) (fun a b => ltL b a)) := OpR.or (r := fun x y H Q => ∃ i j, x = .int i ∧ y = .int j ∧ Q (.bl (decide (j < i))) H) op_gt fun pins s σ H x y v u Q I rx ry ⟨i, j, e1, e2, q⟩ => op_gt_str pins s σ H x y v u Q I rx ry ⟨i, j, e1, e2, by rw [ltL_eq]; exact q⟩
theorem op_geA {X : Cx} : OpR X (compareOp .GtE) (rCmp (fun i j => decide (j ≤ i)) (fun a b => !ltL a b)) := OpR.or (r := fun x y H Q => ∃ i j, x = .int i ∧ y = .int j ∧ Q (.bl (decide (j ≤ i))) H) op_ge fun pins s σ H x y v u Q I rx ry ⟨i, j, e1, e2, q⟩ => op_ge_str pins s σ H x y v u Q I rx ry ⟨i, j, e1, e2, by rw [ltL_eq]; exact q⟩
end
/-! ### == -/
mutual
def toPy : D → Option PyData
  | .non => some .none
  | .bl b => some (.bool b)
  | .int i => some (.int i)
  | .str s => some (.str (st s))
  | .lst ds => (toPys ds).map .list
  | .tup ds => (toPys ds).map .tuple
  | .dic _ _ => none
  | .raw _ => none
def toPys : List D → Option (List PyData)
  | [] => some []
  | d :: ds => (toPy d).bind fun p => (toPys ds).map fun ps => p :: ps
end
mutual
theorem dp_of {K : Fr} {F : Hp} : ∀ (d : D) (v : V) (p : PyData), Rep K F d v → toPy d = some p → Dp K F v p
  | .non, v, p, h, e => by cases e; have h : v = .non := h; subst h; exact .non
  | .bl b, v, p, h, e => by cases e; have h : v = .bl b := h; subst h; exact .bl b
  | .int i, v, p, h, e => by cases e; have h : v = .int i := h; subst h; exact .int i
  | .str s, v, p, h, e => by cases e; have h : v = .str (st s) := h; subst h; exact .str _
  | .lst ds, v, p, h, e => by
    unfold Rep at h
    obtain ⟨a, vs, rfl, s, r⟩ := h
    unfold toPy at e
    cases q : toPys ds with
    | none => rw [q] at e; cases e
    | some ps => rw [q] at e; cases e; exact .lst (.inl s) (dps_of ds vs ps r q)
  | .tup ds, v, p, h, e => by
    unfold Rep at h
    obtain ⟨a, vs, rfl, s, r⟩ := h
    unfold toPy at e
    cases q : toPys ds with
    | none => rw [q] at e; cases e
    | some ps => rw [q] at e; cases e; exact .tup s (dps_of ds vs ps r q)
  | .dic _ _, _, _, _, e => by unfold toPy at e; cases e
  | .raw _, _, _, _, e => by unfold toPy at e; cases e
theorem dps_of {K : Fr} {F : Hp} : ∀ (ds : List D) (vs : List V) (ps : List PyData), Reps K F ds vs → toPys ds = some ps → DpAll K F vs ps
  | [], vs, ps, h, e => by rw [h.inv0]; cases e; exact .nil
  | d :: ds, vs, ps, h, e => by
    obtain ⟨v, r, rfl, k1, k2⟩ := h.inv
    unfold toPys at e
    cases q : toPy d with
    | none => rw [q] at e; cases e
    | some p =>
      rw [q] at e
      cases q2 : toPys ds with
      | none => rw [q2] at e; cases e
      | some ps' => rw [q2] at e; cases e; exact .cons (dp_of d v p k1 q) (dps_of ds r ps' k2 q2)
end
section
variable {K : Fr} {F H : Hp}
def eqvD (d1 d2 : D) : Option Bool := match toPy d1, toPy d2 with
  | some a, some b => if SeqAt.shaped a && SeqAt.shaped b then some (PyData.eqv a b) else none
  | _, _ => none
def eqD (d1 d2 : D) : Option Slot := (eqvD d1 d2).map fun b => (false, .bl b)
def neD (d1 d2 : D) : Option Slot := (eqvD d1 d2).map fun b => (false, .bl (!b))
theorem eqvD_dp {d1 d2 : D} {x y : V} {b : Bool} (fh : Sub F H) (r1 : PkR K F H d1 x) (r2 : PkR K F H d2 y) (e : eqvD d1 d2 = some b) : ∃ d e, Dp K H x d ∧ Dp K H y e ∧ SeqAt.shaped d = true ∧ SeqAt.shaped e = true ∧ PyData.eqv d e = b := by
  unfold eqvD at e
  split at e
  · rename_i a b' ea eb
    split at e
    · rename_i hs
      cases e
      have hs := Bool.and_eq_true_iff.mp hs
      exact ⟨a, b', dp_of _ _ _ (r1.rep fh) ea, dp_of _ _ _ (r2.rep fh) eb, hs.1, hs.2, rfl⟩
    · cases e
  · cases e
theorem ok_eq : OpOk K eqD (rEqD K) := by
  intro F H d1 d2 x y s Q fh r1 r2 e k
  unfold eqD at e
  cases q : eqvD d1 d2 with
  | none => rw [q] at e; cases e
  | some b =>
    rw [q] at e
    cases e
    obtain ⟨a, c, h1, h2, h3, h4, rfl⟩ := eqvD_dp fh r1 r2 q
    exact ⟨a, c, h1, h2, h3, h4, vnB fh k⟩
theorem ok_ne : OpOk K neD (rNeD K) := by
  intro F H d1 d2 x y s Q fh r1 r2 e k
  unfold neD at e
  cases q : eqvD d1 d2 with
  | none => rw [q] at e; cases e
  | some b =>
    rw [q] at e
    cases e
    obtain ⟨a, c, h1, h2, h3, h4, rfl⟩ := eqvD_dp fh r1 r2 q
    exact ⟨a, c, h1, h2, h3, h4, vnB fh k⟩
/-! ### is None, is True, is False -/
def isNonD : D → Option Bool
  | .non => some true
  | .raw _ => none
  | _ => some false
def isBlD (b : Bool) : D → Option Bool
  | .bl c => some (decide (c = b))
  | .raw _ => none
  | _ => some false
def isD : D → D → Option Slot
  | d, .non => (isNonD d).map fun b => (false, .bl b)
  | d, .bl c => (isBlD c d).map fun b => (false, .bl b)
  | _, _ => none
def isNotD : D → D → Option Slot
  | d, .non => (isNonD d).map fun b => (false, .bl (!b))
  | d, .bl c => (isBlD c d).map fun b => (false, .bl (!b))
  | _, _ => none
def isRef : V → Bool
  | .byt _ => false
  | .flt _ => false
  | .ty _ => false
  | _ => true
def rIsA : R2 := fun x y H Q => (y = .non ∧ Q (.bl (decide (x = .non))) H) ∨ ∃ b, y = .bl b ∧ isRef x = true ∧ Q (.bl (decide (x = .bl b))) H
def rIsNotA : R2 := fun x y H Q => (y = .non ∧ Q (.bl (!decide (x = .non))) H) ∨ ∃ b, y = .bl b ∧ isRef x = true ∧ Q (.bl (!decide (x = .bl b))) H
theorem isB_eq {x : V} {v : Value} {b : Bool} (r : RelV x v) (h : isRef x = true) : plainIs v (.bool b) = true ∧ (v == Value.bool b) = decide (x = .bl b) := by
  cases x with
  | non => cases r; exact ⟨rfl, rfl⟩
  | bl c => cases r; exact ⟨rfl, by cases c <;> cases b <;> rfl⟩
  | int i => obtain ⟨t, rfl⟩ := r; exact ⟨rfl, rfl⟩
  | str i => obtain ⟨t, rfl⟩ := r; exact ⟨rfl, rfl⟩
  | ref a => cases r; exact ⟨rfl, rfl⟩
  | byt i => cases h
  | flt i => cases h
  | ty i => cases h
theorem op_isA {X : Cx} : OpR X (compareOp .Is) rIsA := by
  intro pins s σ H x y v u Q I rx ry h
  rcases h with h | ⟨b, rfl, hr, q⟩
  · exact op_isN pins s σ H x y v u Q I rx ry h
  · cases (show u = Value.bool b from ry)
    obtain ⟨e1, e2⟩ := isB_eq (b := b) rx hr
    refine wpAny_is_plain e1 ⟨.bl (decide (x = .bl b)), H, I, ?_, q⟩
    show Value.bool _ = Value.bool _
    rw [e2]
theorem op_isNotA {X : Cx} : OpR X (compareOp .IsNot) rIsNotA := by
  intro pins s σ H x y v u Q I rx ry h
  rcases h with h | ⟨b, rfl, hr, q⟩
  · exact op_notN pins s σ H x y v u Q I rx ry h
  · cases (show u = Value.bool b from ry)
    obtain ⟨e1, e2⟩ := isB_eq (b := b) rx hr
    show wpAny _ _ ((isSame v (.bool b)) >>= fun z => pure (Value.bool (!z))) _ _ s
    refine wpAny_bind (wpAny_isSame_plain e1 (wpAny_pure ⟨.bl (!decide (x = .bl b)), H, I, ?_, q⟩))
    show Value.bool _ = Value.bool _
    rw [e2]
theorem isNon_ok {d : D} {x : V} {b : Bool} (r : PkR K F H d x) (e : isNonD d = some b) : decide (x = .non) = b := by
  cases d with
  | non => cases e; have r : x = .non := r; subst r; rfl
  | bl _ => cases e; have r : x = .bl _ := r; subst r; rfl
  | int _ => cases e; have r : x = .int _ := r; subst r; rfl
  | str _ => cases e; have r : x = .str _ := r; subst r; rfl
  | lst _ => cases e; obtain ⟨a, _, rfl, _⟩ := r; rfl
  | tup _ => cases e; obtain ⟨a, _, rfl, _⟩ := pkTup r; rfl
  | dic _ _ => cases e; obtain ⟨a, _, rfl, _⟩ := r; rfl
  | raw _ => cases e
theorem isBl_ok {d : D} {x : V} {b c : Bool} (r : PkR K F H d x) (e : isBlD c d = some b) : isRef x = true ∧ decide (x = .bl c) = b := by
  cases d with
  | non => cases e; have r : x = .non := r; subst r; exact ⟨rfl, rfl⟩
  | bl k => cases e; have r : x = .bl k := r; subst r; exact ⟨rfl, by cases k <;> cases c <;> rfl⟩
  | int _ => cases e; have r : x = .int _ := r; subst r; exact ⟨rfl, rfl⟩
  | str _ => cases e; have r : x = .str _ := r; subst r; exact ⟨rfl, rfl⟩
  | lst _ => cases e; obtain ⟨a, _, rfl, _⟩ := r; exact ⟨rfl, rfl⟩
  | tup _ => cases e; obtain ⟨a, _, rfl, _⟩ := pkTup r; exact ⟨rfl, rfl⟩
  | dic _ _ => cases e; obtain ⟨a, _, rfl, _⟩ := r; exact ⟨rfl, rfl⟩
  | raw _ => cases e
theorem ok_is : OpOk K isD rIsA := by
  intro F H d1 d2 x y s Q fh r1 r2 e k
  unfold isD at e
  split at e
  · cases q : isNonD d1 with
    | none => rw [q] at e; cases e
    | some b =>
      rw [q] at e
      cases e
      exact .inl ⟨r2, by rw [isNon_ok r1 q]; exact vnB fh k⟩
  · rename_i c
    cases q : isBlD c d1 with
    | none => rw [q] at e; cases e
    | some b =>
      rw [q] at e
      cases e
      obtain ⟨h1, h2⟩ := isBl_ok r1 q
      exact .inr ⟨c, r2, h1, by rw [h2]; exact vnB fh k⟩
  · cases e
theorem ok_isNot : OpOk K isNotD rIsNotA := by
  intro F H d1 d2 x y s Q fh r1 r2 e k
  unfold isNotD at e
  split at e
  · cases q : isNonD d1 with
    | none => rw [q] at e; cases e
    | some b =>
      rw [q] at e
      cases e
      exact .inl ⟨r2, by rw [isNon_ok r1 q]; exact vnB fh k⟩
  · rename_i c
    cases q : isBlD c d1 with
    | none => rw [q] at e; cases e
    | some b =>
      rw [q] at e
      cases e
      obtain ⟨h1, h2⟩ := isBl_ok r1 q
      exact .inr ⟨c, r2, h1, by rw [h2]; exact vnB fh k⟩
  · cases e
/-! ### an item, a part -/
def ixD : D → D → Option Slot
  | .lst xs, .int i => (atI xs i).map fun d => (false, d)
  | .tup xs, .int i => (atI xs i).map fun d => (false, d)
  | .str s, .int i => if s.length ≤ sizeLine then (atI s i).map fun c => (false, .str [c]) else none
  | _, _ => none
theorem Reps.atI {ds : List D} {vs : List V} (r : Reps K F ds vs) {i : Int} {d : D} (h : L2.atI ds i = some d) : ∃ v, L2.atI vs i = some v ∧ Rep K F d v := by
  unfold L2.atI at h ⊢
  rw [← r.length]
  cases q : ixN ds.length i with
  | none => rw [q] at h; cases h
  | some j =>
    rw [q] at h
    exact r.get h
theorem ok_ix : OpOk K ixD (rIx K) := by
  intro F H d1 d2 x y s Q fh r1 r2 e k
  unfold ixD at e
  split at e
  · rename_i xs i
    cases q : L2.atI xs i with
    | none => rw [q] at e; cases e
    | some d =>
      rw [q] at e
      cases e
      obtain ⟨a, vs, rfl, h1, k1⟩ := r1
      obtain ⟨v, hv, rv⟩ := k1.atI q
      exact .inl ⟨a, vs, i, v, rfl, r2, .inl h1, hv, vn0 fh rv k⟩
  · rename_i xs i
    cases q : L2.atI xs i with
    | none => rw [q] at e; cases e
    | some d =>
      rw [q] at e
      cases e
      obtain ⟨a, vs, rfl, h1, k1⟩ := pkTup r1
      obtain ⟨v, hv, rv⟩ := k1.atI q
      exact .inr (.inl ⟨a, vs, i, v, rfl, r2, fh.sqT h1, hv, vn0 fh rv k⟩)
  · rename_i s i
    split at e
    · rename_i hz
      cases q : L2.atI s i with
      | none => rw [q] at e; cases e
      | some c =>
        rw [q] at e
        cases e
        exact .inr (.inr ⟨st s, i, c, r1, r2, hz, q, vnS fh k⟩)
    · cases e
  · cases e
def cut {α : Type} (xs : List α) (lo hi : Option Int) : List α := (xs.drop (HT.sIx xs.length 0 lo)).take (HT.sIx xs.length xs.length hi - HT.sIx xs.length 0 lo)
def sliceD : D → Option Int → Option Int → Option Slot
  | .lst xs, lo, hi => some (true, .lst (cut xs lo hi))
  | .tup xs, lo, hi => some (false, .tup (cut xs lo hi))
  | .str s, lo, hi => if s.length ≤ sizeLine then some (false, .str (cut s lo hi)) else none
  | _, _, _ => none
theorem Reps.cut {ds : List D} {vs : List V} (r : Reps K F ds vs) (lo hi : Option Int) : Reps K F (PM.cut ds lo hi) (cutV vs lo hi) := by
  unfold PM.cut cutV
  rw [← r.length]
  exact (r.drop _).take _
def rSl (K : Fr) : V → Option Int → Option Int → Hp → VK → Prop := fun x lo hi H Q => rSlL K x lo hi H Q ∨ (rSlA K x lo hi H Q ∨ rSlS x lo hi H Q)
theorem sl_all {X : Cx} : L2.SlR X (rSl X.K) := L2.SlR.or sl_list (L2.SlR.or sl_tupA sl_str)
theorem cut_str (s : List Nat) (lo hi : Option Int) : cutS (st s) lo hi = st (cut s lo hi) := rfl
theorem ok_sl {d : D} {x : V} {lo hi : Option Int} {s : Slot} {Q : VK} (fh : Sub F H) (r : PkR K F H d x) (e : sliceD d lo hi = some s) (k : ∀ v F' H', Grow F H F' H' → VN K H F' H' s v → Q v H') : rSl K x lo hi H Q := by
  unfold sliceD at e
  split at e
  · cases e
    obtain ⟨a, vs, rfl, h1, k1⟩ := r
    exact .inl ⟨a, vs, rfl, .inl h1, fun p hp => vnL fh hp (k1.cut lo hi) k⟩
  · cases e
    obtain ⟨a, vs, rfl, h1, k1⟩ := pkTup r
    rename_i xs
    refine .inr (.inl ⟨a, vs, rfl, fh.sqT h1, fun ⟨z1, z2⟩ => ?_, fun _ p hp => vnT fh hp (k1.cut lo hi) k⟩)
    have e2 : cut xs lo hi = xs := by
      unfold cut
      rw [← k1.length] at z1 z2
      rw [z1, z2]
      simp
    rw [e2] at k
    exact vn0 fh (repTup h1 k1) k
  · split at e
    · cases e
      rename_i hz
      exact .inr (.inr ⟨_, r, hz, vnS fh k⟩)
    · cases e
  · cases e
end
end PM
namespace PM
open PySem L2 PyProof.Rows
variable {pp : Pin}

/-! ### items, parts -/
section
variable {X : Cx} {c : Ct} {e a b : Expr} {es : List Expr} {pos p2 : Pos}
theorem ix_imp {r : R2} {f : D → D → Option Slot} {A1 A2 : M D} (hr : IxR X r) (ok : OpOk c.K f r) (ha : PE X a (tP c A1)) (hb : PE X b (tP c A2)) (hs : PlainIx b) : PE X (.Subscript a b pos) (tE c (bin f A1 A2)) :=
  (pe_ix hr ha hb hs).imp fun _ _ _ h => op_tr ok h
theorem e_ix {A1 A2 : M D} (hk : c.K = X.K) (ha : PE X a (tP c A1)) (hb : PE X b (tP c A2)) (hs : PlainIx b) : PE X (.Subscript a b pos) (tE c (bin ixD A1 A2)) := ix_imp ix_seq (hk ▸ ok_ix) ha hb hs
/-- a part's end: none, or an int -/
def ono : M (Option Int) := fun ρ => .ok none ρ
def oin (A : M D) : M (Option Int) := A.bind fun d => M.lift (match d with | .int i => some (some i) | _ => none)
def rO : Hp → Hp → L2.St → Env → Option Int → Option Int → Prop := fun _ _ _ _ b b' => b' = b
abbrev tO' (c : Ct) (A : M (Option Int)) : TO := tG c rO A
theorem _root_.L2.PO.imp {o : Option Expr} {t t' : TO} (h : PO X o t) (k : ∀ σ H Q, t' σ H Q → t σ H Q) : PO X o t' := by
  exact ⟨fun pins s σ H Q I hw => h.run pins s σ H Q I (k σ H Q hw)⟩
theorem o_no : PO X none (tO' c ono) := po_none.imp fun σ H Q ⟨F, ρ, S, k⟩ => k none F H S (Sub.refl _) (Sub.refl _) rfl
theorem Aft.liftG {α : Type} {F H : Hp} {σ : L2.St} {ρ : Env} {o : Option α} {Q : α → Hp → Prop} (h : Aft c (fun _ _ _ _ (b b' : α) => b' = b) F H σ (M.lift o ρ) Q) (S : SRc c F H σ ρ) : ∃ b, o = some b ∧ Q b H := by
  cases o with
  | none => exact h.elim
  | some s => exact ⟨s, rfl, h s F H S (Sub.refl _) (Sub.refl _) rfl⟩
theorem o_in {A : M D} (h : PE X e (tP c A)) : PO X (some e) (tO' c (oin A)) := by
  refine (po_some h).imp fun σ H Q ⟨F, ρ, S, k⟩ => ⟨F, ρ, S, k.step fun d ρ1 x F1 H1 S1 r1 f1 h1 a1 => ?_⟩
  obtain ⟨b, e, q⟩ := Aft.liftG a1 S1
  cases d with
  | int i => cases e; exact ⟨i, r1, q⟩
  | _ => cases e
def sli (A : M D) (L U : M (Option Int)) : M Slot := A.bind fun d => L.bind fun lo => U.bind fun hi => M.lift (sliceD d lo hi)
theorem e_sli {lo hi : Option Expr} {A : M D} {L U : M (Option Int)} (hk : c.K = X.K) (ha : PE X e (tP c A)) (hl : PO X lo (tO' c L)) (hu : PO X hi (tO' c U)) : PE X (.Subscript e (.Slice lo hi none p2) pos) (tE c (sli A L U)) := by
  refine (pe_slice sl_all ha hl hu).imp fun σ H Q ⟨F, ρ, S, k⟩ => ⟨F, ρ, S, k.step fun d ρ1 x F1 H1 S1 r1 f1 h1 a1 => ⟨F1, ρ1, S1, a1.step fun l ρ2 l' F2 H2 S2 r2 f2 h2 a2 => ⟨F2, ρ2, S2, a2.step fun u ρ3 u' F3 H3 S3 r3 f3 h3 a3 => ?_⟩⟩⟩
  have r2 : l' = l := r2
  have r3 : u' = u := r3
  subst r2; subst r3
  obtain ⟨s, e, k⟩ := a3.lift S3
  exact hk ▸ ok_sl S3.fh (r1.mono (f2.trans f3) (h2.trans h3)) e k

/-! ### data handed on: a temporary list is frozen -/
def rF (c : Ct) : Hp → Hp → L2.St → Env → D → V → Prop := fun F _ _ _ d v => Rep c.K F d v
abbrev tF (c : Ct) (A : M D) : TE := tG c (rF c) A
theorem SR.freezeT {K : Fr} {B F0 F H : Hp} {σ : L2.St} {ρ : Env} {d : D} {v : V} (S : SR pp K B F0 F H σ ρ) (o : Own K B F H d v) (n : ∀ (i : Nat) (d' : D), ρ[i]? = some (some (true, d')) → σ[i]? ≠ some (some v)) :
    ∃ F', SR pp K B F0 F' H σ ρ ∧ Sub F F' ∧ Rep K F' d v := by
  obtain ⟨a, rfl, fa, ba, k⟩ := o
  obtain ⟨o, ho⟩ := k.there
  have hf : Sub F (upd F a o) := Sub.upd fa
  refine ⟨upd F a o, ⟨S.bh, fun b u q => ?_, S.f0.trans hf, fun b u q => ?_, S.len, fun j s q => ?_, S.sep, S.pk⟩, hf, k.rep hf fun u hu => ?_⟩
  · by_cases hb : b = a
    · subst hb; rw [upd_same] at q; cases q; exact ho
    · rw [upd_ne hb] at q; exact S.fh b u q
  · by_cases hb : b = a
    · subst hb; exact .inr ba
    · rw [upd_ne hb] at q; exact S.new b u q
  · obtain ⟨v, h1, h2⟩ := S.sl j s q
    refine ⟨v, h1, ?_⟩
    obtain ⟨ow, dj⟩ := s
    cases ow with
    | false => exact Rep.mono hf dj v h2
    | true =>
      obtain ⟨p, rfl, fp, bp, kp⟩ := h2
      have np : p ≠ a := fun z => by
        subst z
        exact n j dj q h1
      exact ⟨p, rfl, by rw [upd_ne np]; exact fp, bp, kp.mono hf fun u hu => hu⟩
  · rw [ho] at hu; cases hu; exact upd_same
theorem VR.freeze {F H : Hp} {σ : L2.St} {ρ : Env} {s : Slot} {v : V} (S : SRc c F H σ ρ) (r : VR c F H σ ρ s v) : ∃ F', SRc c F' H σ ρ ∧ Sub F F' ∧ Rep c.K F' s.2 v := by
  obtain ⟨o, d⟩ := s
  cases o with
  | false => exact ⟨F, S, Sub.refl _, r.1⟩
  | true => exact S.freezeT r.1 (r.2 rfl)
theorem f_of {A : M Slot} (h : PE X e (tE c A)) : PE X e (tF c (pk A)) := by
  refine h.imp fun σ H Q ⟨F, ρ, S, k⟩ => ⟨F, ρ, S, k.step fun s ρ1 x F1 H1 S1 r1 f1 h1 a1 => ?_⟩
  obtain ⟨F', S', f', r'⟩ := VR.freeze S1 r1
  exact a1 x F' H1 S' f' (Sub.refl _) r'
theorem p_ofF {A : M D} (h : PE X e (tF c A)) : PE X e (tP c A) := by
  refine h.imp fun σ H Q ⟨F, ρ, S, k⟩ => ⟨F, ρ, S, ?_⟩
  cases q : A ρ with
  | ok d ρ1 => rw [q] at k; exact fun v F' H' S' f' h' r => k v F' H' S' f' h' (Rep.pk S'.fh r)
  | exc x ρ1 => rw [q] at k; exact k
  | bad => rw [q] at k; exact k
def rFs (c : Ct) : Hp → Hp → L2.St → Env → List D → List V → Prop := fun F _ _ _ d v => Reps c.K F d v
abbrev tFs (c : Ct) (A : M (List D)) : TA := tG c (rFs c) A
def anil : M (List D) := fun ρ => .ok [] ρ
def acons (A : M D) (R : M (List D)) : M (List D) := A.bind fun d => R.bind fun ds ρ => .ok (d :: ds) ρ
theorem a_nil : PA X [] (tFs c anil) := pa_nil.imp fun σ H Q ⟨F, ρ, S, k⟩ => k [] F H S (Sub.refl _) (Sub.refl _) Reps.nil
theorem a_cons {A : M D} {R : M (List D)} (h : PE X e (tF c A)) (t : PA X es (tFs c R)) (hs : starEach (e :: es) X.env = (false, eval e X.env) :: starEach es X.env := by rfl) : PA X (e :: es) (tFs c (acons A R)) := by
  refine (pa_cons h t hs).imp fun σ H Q ⟨F, ρ, S, k⟩ => ⟨F, ρ, S, k.step fun d ρ1 x F1 H1 S1 r1 f1 h1 a1 => ⟨F1, ρ1, S1, a1.step fun ds ρ2 xs F2 H2 S2 r2 f2 h2 a2 => ?_⟩⟩
  exact a2 (x :: xs) F2 H2 S2 (Sub.refl _) (Sub.refl _) (Reps.cons (Rep.mono f2 _ _ r1) r2)
theorem q_nil : PA X [] (tPs c anil) := pa_nil.imp fun σ H Q ⟨F, ρ, S, k⟩ => k [] F H S (Sub.refl _) (Sub.refl _) rfl
theorem q_cons {A : M D} {R : M (List D)} (h : PE X e (tP c A)) (t : PA X es (tPs c R)) (hs : starEach (e :: es) X.env = (false, eval e X.env) :: starEach es X.env := by rfl) : PA X (e :: es) (tPs c (acons A R)) := by
  refine (pa_cons h t hs).imp fun σ H Q ⟨F, ρ, S, k⟩ => ⟨F, ρ, S, k.step fun d ρ1 x F1 H1 S1 r1 f1 h1 a1 => ⟨F1, ρ1, S1, a1.step fun ds ρ2 xs F2 H2 S2 r2 f2 h2 a2 => ?_⟩⟩
  exact a2 (x :: xs) F2 H2 S2 (Sub.refl _) (Sub.refl _) ⟨x, xs, rfl, r1.mono f2 h2, r2⟩
/-! ### displays -/
def lstE (R : M (List D)) : M Slot := R.bind fun ds => M.lift (if ds.length ≤ sizeLine then some (true, .lst ds) else none)
def tupE (R : M (List D)) : M Slot := R.bind fun ds => M.lift (if ds.length ≤ sizeLine then some (false, .tup ds) else none)
theorem e_lst {R : M (List D)} (h : PA X es (tFs c R)) : PE X (.List es pos) (tE c (lstE R)) := by
  refine (pe_lst h).imp fun σ H Q ⟨F, ρ, S, k⟩ => ⟨F, ρ, S, k.step fun ds ρ1 xs F1 H1 S1 r1 f1 h1 a1 => ?_⟩
  obtain ⟨s, e, k⟩ := a1.lift S1
  split at e
  · cases e
    rename_i hz
    exact ⟨by rw [← Reps.length r1]; exact hz, fun p hp => vnL S1.fh hp r1 k⟩
  · cases e
theorem e_tup {R : M (List D)} {x1} (h : PA X es (tFs c R)) : PE X (.Tuple es x1 pos) (tE c (tupE R)) := by
  refine (pe_tup h).imp fun σ H Q ⟨F, ρ, S, k⟩ => ⟨F, ρ, S, k.step fun ds ρ1 xs F1 H1 S1 r1 f1 h1 a1 => ?_⟩
  obtain ⟨s, e, k⟩ := a1.lift S1
  split at e
  · cases e
    rename_i hz
    exact ⟨by rw [← Reps.length r1]; exact hz, fun p hp => vnT S1.fh hp r1 k⟩
  · cases e
/-! ### built-ins called by name -/
def blt (f : List D → Option Slot) (R : M (List D)) : M Slot := R.bind fun ds => M.lift (f ds)
theorem cb_tr {f : List D → Option Slot} {r : List V → Hp → VK → Prop} {R : M (List D)} (ok : CallOk c.K f r) {σ : L2.St} {H : Hp} {Q : VK} (h : tE c (blt f R) σ H Q) : tCB r (tPs c R) σ H Q := by
  obtain ⟨F, ρ, S, k⟩ := h
  refine ⟨F, ρ, S, k.step fun ds ρ1 xs F1 H1 S1 r1 f1 h1 a1 => ?_⟩
  obtain ⟨s, e, k⟩ := a1.lift S1
  exact ok F1 H1 ds xs s Q S1.fh r1 e k
theorem e_blt {id : String} {x : Str} {p : Pos} {f : List D → Option Slot} {r : List V → Hp → VK → Prop} {R : M (List D)} (hc : CallR X (.builtin id) r) (ok : CallOk c.K f r) (hg : Gl X x) (hm : X.mg x = none) (hv : bootBuiltins x = some (.builtin id)) (ha : PA X (e :: es) (tPs c R))
    (hn : x ≠ "__name__" := by decide) (hdb : (x == ("__debug__" : Str)) = false := by decide) (he : starEach (e :: es) X.env = (false, eval e X.env) :: starEach es X.env := by rfl) (hpl : (backTo pos (starEach es X.env)).any (·.1) = false := by rfl) :
    PE X (.Call (.Name x p) (e :: es) [] pos) (tE c (blt f R)) := (pe_callB hc hg hm hv ha hn hdb he hpl).imp fun _ _ _ h => cb_tr ok h
theorem e_typ {T : String} {x : Str} {p : Pos} {f : List D → Option Slot} {r : List V → Hp → VK → Prop} {R : M (List D)} (hc : CallR X (.type T) r) (ok : CallOk c.K f r) (hg : Gl X x) (hm : X.mg x = none) (hv : bootBuiltins x = some (.type T)) (ha : PA X (e :: es) (tPs c R))
    (hn : x ≠ "__name__" := by decide) (hdb : (x == ("__debug__" : Str)) = false := by decide) (he : starEach (e :: es) X.env = (false, eval e X.env) :: starEach es X.env := by rfl) (hpl : (backTo pos (starEach es X.env)).any (·.1) = false := by rfl) :
    PE X (.Call (.Name x p) (e :: es) [] pos) (tE c (blt f R)) := (pe_callTy hc hg hm hv ha hn hdb he hpl).imp fun _ _ _ h => cb_tr ok h
end
section
variable {K : Fr} {F H : Hp}
theorem PkRs.one {d : D} {xs : List V} (h : PkRs K F H [d] xs) : ∃ x, xs = [x] ∧ PkR K F H d x := by
  obtain ⟨v, r, rfl, k, h2⟩ := h
  have h2 : r = [] := h2
  subst h2
  exact ⟨v, rfl, k⟩
theorem PkRs.two {d d' : D} {xs : List V} (h : PkRs K F H [d, d'] xs) : ∃ x y, xs = [x, y] ∧ PkR K F H d x ∧ PkR K F H d' y := by
  obtain ⟨v, r, rfl, k, h2⟩ := h
  obtain ⟨y, rfl, k2⟩ := h2.one
  exact ⟨v, y, rfl, k, k2⟩
/-- len -/
def lenD : List D → Option Slot
  | [.str s] => if s.length ≤ sizeLine then some (false, .int s.length) else none
  | [.lst xs] => some (false, .int xs.length)
  | [.tup xs] => some (false, .int xs.length)
  | _ => none
def rLenA (K : Fr) : List V → Hp → VK → Prop := fun xs H Q => ∃ x n, xs = [x] ∧ LenV K x H n ∧ Q (.int n) H
theorem ok_len : CallOk K lenD (rLenA K) := by
  intro F H ds xs s Q fh r e k
  unfold lenD at e
  split at e
  · split at e
    · cases e
      rename_i hz
      obtain ⟨x, rfl, r1⟩ := r.one
      have r1 : x = .str (st _) := r1
      subst r1
      exact ⟨_, _, rfl, ⟨hz, rfl⟩, vnI fh k⟩
    · cases e
  · cases e
    obtain ⟨x, rfl, a, vs, rfl, h1, k1⟩ := r.one
    exact ⟨_, vs.length, rfl, .inl ⟨vs, .inl h1, rfl⟩, by rw [← k1.length]; exact vnI fh k⟩
  · cases e
    obtain ⟨x, rfl, r1⟩ := r.one
    obtain ⟨a, vs, rfl, h1, k1⟩ := pkTup r1
    exact ⟨_, vs.length, rfl, .inr ⟨vs, fh.sqT h1, rfl⟩, by rw [← k1.length]; exact vnI fh k⟩
  · cases e
theorem op_lenA {X : Cx} : CallR X (.builtin "len") (rLenA X.K) := call_len
/-- int of an int, a bool -/
def intD : List D → Option Slot
  | [.int i] => some (false, .int i)
  | [.bl b] => some (false, .int (if b then 1 else 0))
  | _ => none
def rInt1 : List V → Hp → VK → Prop := fun xs H Q => (∃ i, xs = [.int i] ∧ Q (.int i) H) ∨ ∃ k, xs = [.bl k] ∧ Q (.int (if k then 1 else 0)) H
theorem ok_int : CallOk K intD rInt1 := by
  intro F H ds xs s Q fh r e k
  unfold intD at e
  split at e
  · cases e
    obtain ⟨x, rfl, r1⟩ := r.one
    have r1 : x = .int _ := r1
    subst r1
    exact .inl ⟨_, rfl, vnI fh k⟩
  · cases e
    obtain ⟨x, rfl, r1⟩ := r.one
    have r1 : x = .bl _ := r1
    subst r1
    exact .inr ⟨_, rfl, vnI fh k⟩
  · cases e
theorem op_int1 {X : Cx} : CallR X (.type "int") rInt1 := call_int1
/-- str of an int -/
def chars (i : Int) : List Nat := (toString i : String).toList.map Char.toNat
def strD : List D → Option Slot
  | [.int i] => if i.natAbs.log2 < 1920 then some (false, .str (Str.ofString (toString i)).cps.toList) else none
  | _ => none
def rStr1 : List V → Hp → VK → Prop := fun xs H Q => ∃ i, xs = [.int i] ∧ i.natAbs.log2 < 1920 ∧ Q (.str (toString i)) H
theorem ok_str : CallOk K strD rStr1 := by
  intro F H ds xs s Q fh r e k
  unfold strD at e
  split at e
  · split at e
    · cases e
      rename_i hz
      obtain ⟨x, rfl, r1⟩ := r.one
      have r1 : x = .int _ := r1
      subst r1
      refine ⟨_, rfl, hz, ?_⟩
      refine k _ F H (Grow.refl fh) ?_
      show V.str _ = V.str (st (Str.ofString _).cps.toList)
      rfl
    · cases e
  · cases e
theorem op_str1 {X : Cx} : CallR X (.type "str") rStr1 := call_str_int
/-- list(..), tuple(..) of a list, a tuple -/
def listD : List D → Option Slot
  | [.lst xs] => some (true, .lst xs)
  | [.tup xs] => some (true, .lst xs)
  | _ => none
def rList1 (K : Fr) : List V → Hp → VK → Prop := fun xs H Q => ∃ p ys, xs = [.ref p] ∧ (SqL K H p ys ∨ SqT K H p ys) ∧ ∀ l, H l = none → Q (.ref l) (upd H l (.lst ys))
theorem ok_list : CallOk K listD (rList1 K) := by
  intro F H ds xs s Q fh r e k
  unfold listD at e
  split at e
  · cases e
    obtain ⟨x, rfl, a, vs, rfl, h1, k1⟩ := r.one
    exact ⟨a, vs, rfl, .inl (.inl h1), fun p hp => vnL fh hp k1 k⟩
  · cases e
    obtain ⟨x, rfl, r1⟩ := r.one
    obtain ⟨a, vs, rfl, h1, k1⟩ := pkTup r1
    exact ⟨a, vs, rfl, .inr (fh.sqT h1), fun p hp => vnL fh hp k1 k⟩
  · cases e
theorem op_list1 {X : Cx} : CallR X (.type "list") (rList1 X.K) := call_list_of
def tupD : List D → Option Slot
  | [.lst xs] => some (false, .tup xs)
  | [.tup xs] => some (false, .tup xs)
  | _ => none
def rTup1 (K : Fr) : List V → Hp → VK → Prop := fun xs H Q => ∃ a ys, xs = [.ref a] ∧ ((SqL K H a ys ∧ ∀ l, H l = none → Q (.ref l) (upd H l (.tup ys))) ∨ (SqT K H a ys ∧ Q (.ref a) H))
theorem ok_tup : CallOk K tupD (rTup1 K) := by
  intro F H ds xs s Q fh r e k
  unfold tupD at e
  split at e
  · cases e
    obtain ⟨x, rfl, a, vs, rfl, h1, k1⟩ := r.one
    exact ⟨a, vs, rfl, .inl ⟨.inl h1, fun p hp => vnT fh hp k1 k⟩⟩
  · cases e
    obtain ⟨x, rfl, r1⟩ := r.one
    obtain ⟨a, vs, rfl, h1, k1⟩ := pkTup r1
    exact ⟨a, vs, rfl, .inr ⟨fh.sqT h1, vn0 fh (repTup h1 k1) k⟩⟩
  · cases e
theorem op_tup1 {X : Cx} : CallR X (.type "tuple") (rTup1 X.K) := call_tuple_of
/-- isinstance of a built-in type -/
inductive Ty where | non | bl | int | str | lst | tup | dic
  deriving DecidableEq
def Ty.name : Ty → String
  | .non => "NoneType" | .bl => "bool" | .int => "int" | .str => "str" | .lst => "list" | .tup => "tuple" | .dic => "dict"
def Ty.sub (a b : Ty) : Bool := decide (a = b) || (decide (a = .bl) && decide (b = .int))
theorem Ty.kit : ∀ a b : Ty, b ≠ .non → kitB a.name b.name = some (a.sub b) := by
  intro a b h
  cases a <;> cases b <;> first | exact absurd rfl h | decide +kernel
def tyD : D → Option Ty
  | .non => some .non | .bl _ => some .bl | .int _ => some .int | .str _ => some .str | .lst _ => some .lst | .tup _ => some .tup | .dic _ _ => some .dic | .raw _ => none
theorem tyX {d : D} {x : V} {t : Ty} (fh : Sub F H) (r : PkR K F H d x) (e : tyD d = some t) : TyX K H x (.type t.name) := by
  cases d with
  | non => cases e; have r : x = .non := r; subst r; exact .base .non
  | bl _ => cases e; have r : x = .bl _ := r; subst r; exact .base (.bl _)
  | int _ => cases e; have r : x = .int _ := r; subst r; exact .base (.int _)
  | str _ => cases e; have r : x = .str _ := r; subst r; exact .base (.str _)
  | lst _ =>
    cases e
    obtain ⟨a, vs, rfl, h1, _⟩ := r
    rcases h1 with h1 | ⟨o, h1⟩
    · exact .base (.lst h1)
    · exact .base (.frz h1)
  | tup _ =>
    cases e
    obtain ⟨a, vs, rfl, h1, _⟩ := pkTup r
    rcases h1 with (h1 | ⟨o, h1⟩) | ⟨o, its, n, h1, h2, _⟩
    · exact .base (.tup (fh _ _ h1))
    · exact .fTuple (fh _ _ h1)
    · exact .kTuple h1 h2
  | dic _ _ =>
    cases e
    obtain ⟨a, vs, rfl, h1, _⟩ := r
    exact .base (.dK h1)
  | raw _ => cases e
def isiD (t : Ty) : List D → Option Slot
  | [d, .raw (.ty n)] => if n = t.name then (tyD d).map fun a => (false, .bl (a.sub t)) else none
  | _ => none
theorem ok_isi {t : Ty} (ht : t ≠ .non) : CallOk K (isiD t) (rIsi K) := by
  intro F H ds xs s Q fh r e k
  unfold isiD at e
  split at e
  · rename_i d n
    split at e
    · rename_i hn
      subst hn
      cases q : tyD d with
      | none => rw [q] at e; cases e
      | some a =>
        rw [q] at e
        cases e
        obtain ⟨x, y, rfl, r1, r2⟩ := r.two
        have r2 : y = .ty t.name := r2
        subst r2
        exact ⟨x, _, _, _, a.sub t, rfl, .ty _, tyX fh r1 q, kit_ty (Ty.kit a t ht), vnB fh k⟩
    · cases e
  · cases e
/-- isinstance(x, T) -/
def isi (t : Ty) (A : M D) : M Slot := A.bind fun d => M.lift ((tyD d).map fun a => (false, .bl (a.sub t)))
end
section
variable {X : Cx} {c : Ct} {a : Expr} {pos : Pos}
theorem p_ty (t : Ty) {p2 : Pos} (hg2 : Gl X (Str.ofString t.name)) (hm2 : X.mg (Str.ofString t.name) = none) (hv2 : bootBuiltins (Str.ofString t.name) = some (.type t.name))
    (hn2 : Str.ofString t.name ≠ "__name__" := by decide) (hd2 : (Str.ofString t.name == ("__debug__" : Str)) = false := by decide) :
    PE X (.Name (Str.ofString t.name) p2) (tP c (pk (cst (.raw (.ty t.name))))) := p_of (e_cst (pe_bltn (v := .ty t.name) hg2 hm2 hv2 rfl hn2 hd2) fun _ => rfl)
theorem e_isi {t : Ty} {A : M D} {e : Expr} (h : PE X e (tE c (blt (isiD t) (acons A (acons (pk (cst (.raw (.ty t.name)))) anil))))) : PE X e (tE c (isi t A)) := by
  refine h.imp fun σ H Q ⟨F, ρ, S, k⟩ => ⟨F, ρ, S, ?_⟩
  unfold blt isi acons pk cst ret anil M.bind M.lift at *
  cases q : A ρ with
  | ok d ρ1 =>
    rw [q] at k
    dsimp only at k ⊢
    unfold isiD
    simp only [if_true]
    exact k
  | exc x ρ1 => rw [q] at k; exact k
  | bad => rw [q] at k; exact k
end
end PM
namespace PM
open PySem L2 PyProof.Rows
variable {pp : Pin}

/-! ### arguments of an own def: values, or owned lists of this frame, lent -/
def AR (K : Fr) (F H : Hp) (σ : L2.St) (bs : List Nat) (d : D) (v : V) : Prop := Rep K F d v ∨ ∃ i ∈ bs, σ[i]? = some (some v) ∧ ∃ a, v = .ref a ∧ At K F H d a
def ARs (K : Fr) (F H : Hp) (σ : L2.St) (bs : List Nat) : List D → List V → Prop
  | [], vs => vs = []
  | d :: ds, vs => ∃ v r, vs = v :: r ∧ AR K F H σ bs d v ∧ ARs K F H σ bs ds r
theorem AR.mono {K : Fr} {F H F' H' : Hp} {σ : L2.St} {bs bs' : List Nat} {d : D} {v : V} (h : AR K F H σ bs d v) (f : Sub F F') (g : Sub H H') (b : ∀ i ∈ bs, i ∈ bs') : AR K F' H' σ bs' d v := by
  rcases h with h | ⟨i, hi, e, a, ea, k⟩
  · exact .inl (Rep.mono f _ _ h)
  · exact .inr ⟨i, b i hi, e, a, ea, k.mono f fun o e => g a o e⟩
theorem ARs.mono {K : Fr} {F H F' H' : Hp} {σ : L2.St} {bs bs' : List Nat} (f : Sub F F') (g : Sub H H') (b : ∀ i ∈ bs, i ∈ bs') : ∀ {ds : List D} {vs : List V}, ARs K F H σ bs ds vs → ARs K F' H' σ bs' ds vs
  | [], _, h => h
  | d :: ds, _, ⟨v, r, e, k, h⟩ => ⟨v, r, e, k.mono f g b, ARs.mono f g b h⟩
theorem ARs.length {K : Fr} {F H : Hp} {σ : L2.St} {bs : List Nat} : ∀ {ds : List D} {vs : List V}, ARs K F H σ bs ds vs → ds.length = vs.length
  | [], vs, h => by have h : vs = [] := h; subst h; rfl
  | d :: ds, _, ⟨v, r, e, k, h⟩ => by subst e; rw [List.length_cons, List.length_cons, ARs.length h]
abbrev AM := M (List D × List Nat)
def rA (c : Ct) : Hp → Hp → L2.St → Env → List D × List Nat → List V → Prop := fun F H σ _ r vs => ARs c.K F H σ r.2 r.1 vs
abbrev tA (c : Ct) (A : AM) : TA := tG c (rA c) A
def cnil : AM := fun ρ => .ok ([], []) ρ
def cval (A : M D) (R : AM) : AM := A.bind fun d => R.bind fun r ρ => .ok (d :: r.1, r.2) ρ
def cvw (i : Nat) (R : AM) : AM := fun ρ => match ρ[i]? with
  | some (some (false, d)) => (R.bind fun r ρ => .ok (d :: r.1, r.2) ρ) ρ
  | some (some (true, d)) => (R.bind fun r ρ => .ok (d :: r.1, i :: r.2) ρ) ρ
  | _ => .bad
section
variable {X : Cx} {c : Ct} {e : Expr} {es : List Expr} {pos : Pos}
theorem c_nil : PA X [] (tA c cnil) := pa_nil.imp fun σ H Q ⟨F, ρ, S, k⟩ => k [] F H S (Sub.refl _) (Sub.refl _) rfl
theorem c_val {A : M D} {R : AM} (h : PE X e (tF c A)) (t : PA X es (tA c R)) (hs : starEach (e :: es) X.env = (false, eval e X.env) :: starEach es X.env := by rfl) : PA X (e :: es) (tA c (cval A R)) := by
  refine (pa_cons h t hs).imp fun σ H Q ⟨F, ρ, S, k⟩ => ⟨F, ρ, S, k.step fun d ρ1 x F1 H1 S1 r1 f1 h1 a1 => ⟨F1, ρ1, S1, a1.step fun r ρ2 xs F2 H2 S2 r2 f2 h2 a2 => ?_⟩⟩
  exact a2 (x :: xs) F2 H2 S2 (Sub.refl _) (Sub.refl _) ⟨x, xs, rfl, .inl (Rep.mono f2 _ _ r1), r2⟩
theorem c_vw {i : Nat} {x : Str} {R : AM} (h : PE X (.Name x pos) (tVar i)) (t : PA X es (tA c R)) (hs : starEach (.Name x pos :: es) X.env = (false, eval (.Name x pos) X.env) :: starEach es X.env := by rfl) : PA X (.Name x pos :: es) (tA c (cvw i R)) := by
  refine (pa_cons h t hs).imp fun σ H Q ⟨F, ρ, S, k⟩ => ?_
  unfold cvw at k
  split at k
  · rename_i d e
    obtain ⟨v, h1, h2⟩ := S.sl i _ e
    refine ⟨v, h1, F, ρ, S, k.step fun r ρ2 xs F2 H2 S2 r2 f2 g2 a2 => ?_⟩
    exact a2 (v :: xs) F2 H2 S2 (Sub.refl _) (Sub.refl _) ⟨v, xs, rfl, .inl (Rep.mono f2 _ _ h2), r2⟩
  · rename_i d e
    obtain ⟨v, h1, a, rfl, fa, ba, h2⟩ := S.sl i _ e
    refine ⟨_, h1, F, ρ, S, k.step fun r ρ2 xs F2 H2 S2 r2 f2 g2 a2 => ?_⟩
    exact a2 (.ref a :: xs) F2 H2 S2 (Sub.refl _) (Sub.refl _) ⟨.ref a, xs, rfl, .inr ⟨i, List.mem_cons_self, h1, a, rfl, h2.mono f2 fun o e => g2 a o e⟩, ARs.mono (Sub.refl _) (Sub.refl _) (fun i hi => List.mem_cons_of_mem _ hi) r2⟩
  · exact k.elim
end

/-! ### no list, no dict within -/
mutual
def noL : D → Bool
  | .non => true | .bl _ => true | .int _ => true | .str _ => true
  | .tup ds => noLs ds
  | .lst _ => false | .dic _ _ => false | .raw _ => false
def noLs : List D → Bool
  | [] => true
  | d :: ds => noL d && noLs ds
end
def noLS : Slot → Bool
  | (false, d) => noL d
  | (true, .lst ds) => noLs ds
  | (true, .dic _ ds) => noLs ds
  | (true, _) => true
def owned (ρ : Env) (i : Nat) : Bool := match ρ[i]? with | some (some (true, _)) => true | _ => false
def frzAll (bs : List Nat) (ρ : Env) : Env := ρ.mapIdx fun j s => if j ∈ bs then s.map fun p => (false, p.2) else s
section
variable {K : Fr} {B F0 F H Fc F' H' : Hp} {σ : L2.St} {ρ : Env} {bs : List Nat}
structure Lent (K : Fr) (F H Fc : Hp) (σ : L2.St) (ρ : Env) (bs : List Nat) : Prop where
  f : Sub F Fc
  h : Sub Fc H
  at_ : ∀ i ∈ bs, ∀ a o, σ[i]? = some (some (.ref a)) → H a = some o → Fc a = some o
  back : ∀ a o, Fc a = some o → F a = some o ∨ ∃ i ∈ bs, ∃ d, ρ[i]? = some (some (true, d)) ∧ σ[i]? = some (some (.ref a)) ∧ H a = some o ∧ At K F H d a
open Classical in
theorem lend (S : SR pp K B F0 F H σ ρ) (hb : bs.all (owned ρ) = true) : ∃ Fc, Lent K F H Fc σ ρ bs := by
  have own : ∀ i ∈ bs, ∃ d, ρ[i]? = some (some (true, d)) := fun i hi => by
    have := List.all_eq_true.mp hb i hi
    unfold owned at this
    split at this
    · rename_i d e; exact ⟨d, e⟩
    · cases this
  refine ⟨fun a => match F a with | some o => some o | none => if ∃ i ∈ bs, σ[i]? = some (some (.ref a)) then H a else none, fun a o e => ?_, fun a o e => ?_, fun i hi a o e1 e2 => ?_, fun a o e => ?_⟩
  · (try dsimp only); rw [e]
  · (try dsimp only at e)
    cases q : F a with
    | some u => rw [q] at e; cases e; exact S.fh a _ q
    | none =>
      rw [q] at e
      (try dsimp only at e)
      split at e
      · exact e
      · cases e
  · (try dsimp only)
    cases q : F a with
    | some u =>
      have := S.fh a u q
      rw [e2] at this
      cases this; rfl
    | none =>
      (try dsimp only)
      rw [if_pos ⟨i, hi, e1⟩]; exact e2
  · (try dsimp only at e)
    cases q : F a with
    | some u => rw [q] at e; cases e; exact .inl rfl
    | none =>
      rw [q] at e
      (try dsimp only at e)
      split at e
      · rename_i hx
        obtain ⟨i, hi, e1⟩ := hx
        obtain ⟨d, ed⟩ := own i hi
        obtain ⟨v, e2, a', rfl, _, _, k⟩ := S.sl i _ ed
        rw [e1] at e2; cases e2
        exact .inr ⟨i, hi, d, ed, e1, e, k⟩
      · cases e
theorem Lent.rep (L : Lent K F H Fc σ ρ bs) : ∀ {ds : List D} {vs : List V}, ARs K F H σ bs ds vs → Reps K Fc ds vs
  | [], vs, h => by have h : vs = [] := h; subst h; exact Reps.nil
  | d :: ds, _, ⟨v, r, e, k, h⟩ => by
    subst e
    refine Reps.cons ?_ (L.rep h)
    rcases k with k | ⟨i, hi, e, a, rfl, k⟩
    · exact Rep.mono L.f _ _ k
    · exact k.rep L.f fun o ho => L.at_ i hi a o e ho
/-- what came back holds none of what was lent -/
theorem Lent.keep (L : Lent K F H Fc σ ρ bs) (fh : Sub F H) (g : Grow Fc H F' H') : ∃ Fn, Grow F H Fn H' ∧ (∀ a, F' a = none → Fn a = none) ∧ (∀ a o, Fn a = some o → F' a = some o) ∧ ∀ a o, F' a = some o → (∀ vs, o ≠ .lst vs) → (∀ kvs, o ≠ .dK kvs) → Fn a = some o := by
  have back : ∀ a o, (match F a with | some o => some o | none => if (Fc a).isNone then F' a else none) = some o → F' a = some o := fun a o e => by
    cases q : F a with
    | some u => rw [q] at e; cases e; exact g.f a _ (L.f a _ q)
    | none =>
      rw [q] at e
      (try dsimp only at e)
      split at e
      · exact e
      · cases e
  refine ⟨fun a => match F a with | some o => some o | none => if (Fc a).isNone then F' a else none, ⟨fun a o e => ?_, g.h, fun a o e => ?_, fun a o e => ?_⟩, fun a e => ?_, back, fun a o e n1 n2 => ?_⟩
  · (try dsimp only); rw [e]
  · exact g.fh a o (back a o e)
  · (try dsimp only at e)
    cases q : F a with
    | some u => rw [q] at e; cases e; exact .inl rfl
    | none =>
      rw [q] at e
      (try dsimp only at e)
      split at e
      · rename_i hn
        rcases g.new a o e with z | z
        · rw [z] at hn; cases hn
        · exact .inr z
      · cases e
  · (try dsimp only)
    cases q : F a with
    | some u => rw [g.f a _ (L.f a _ q)] at e; cases e
    | none =>
      (try dsimp only)
      split
      · exact e
      · rfl
  · (try dsimp only)
    cases q : F a with
    | some u =>
      have := g.f a _ (L.f a _ q)
      rw [e] at this; cases this; rfl
    | none =>
      (try dsimp only)
      cases q2 : Fc a with
      | none => exact e
      | some u =>
        rcases L.back a u q2 with z | ⟨i, hi, d, _, _, hu, k⟩
        · rw [q] at z; cases z
        · have hF := g.f a u q2
          rw [e] at hF; cases hF
          cases d with
          | lst ds =>
            obtain ⟨vs, h1, _⟩ := k
            rw [hu] at h1; cases h1
            exact absurd rfl (n1 vs)
          | dic ks ds =>
            obtain ⟨vs, h1, _⟩ := k
            rw [hu] at h1; cases h1
            exact absurd rfl (n2 _)
          | _ => exact k.elim
mutual
theorem Rep.thin {K : Fr} {F' Fn : Hp} (h : ∀ a o, F' a = some o → (∀ vs, o ≠ .lst vs) → (∀ kvs, o ≠ .dK kvs) → Fn a = some o) : ∀ (d : D) (v : V), noL d = true → Rep K F' d v → Rep K Fn d v
  | .non, _, _, k => k
  | .bl _, _, _, k => k
  | .int _, _, _, k => k
  | .str _, _, _, k => k
  | .tup ds, v, n, k => by
    unfold Rep at k ⊢
    obtain ⟨a, vs, e, s, r⟩ := k
    refine ⟨a, vs, e, ?_, Reps.thin h ds vs (by unfold noL at n; exact n) r⟩
    rcases s with (s | ⟨o, s⟩) | s
    · exact .inl (.inl (h a _ s (fun _ z => by cases z) fun _ z => by cases z))
    · exact .inl (.inr ⟨o, h a _ s (fun _ z => by cases z) fun _ z => by cases z⟩)
    · exact .inr s
  | .lst _, _, n, _ => by unfold noL at n; cases n
  | .dic _ _, _, n, _ => by unfold noL at n; cases n
  | .raw _, _, n, _ => by unfold noL at n; cases n
theorem Reps.thin {K : Fr} {F' Fn : Hp} (h : ∀ a o, F' a = some o → (∀ vs, o ≠ .lst vs) → (∀ kvs, o ≠ .dK kvs) → Fn a = some o) : ∀ (ds : List D) (vs : List V), noLs ds = true → Reps K F' ds vs → Reps K Fn ds vs
  | [], vs, _, k => by rw [k.inv0]; exact Reps.nil
  | d :: ds, vs, n, k => by
    obtain ⟨v, r, rfl, k1, k2⟩ := k.inv
    unfold noLs at n
    have n := Bool.and_eq_true_iff.mp n
    exact Reps.cons (Rep.thin h d v n.1 k1) (Reps.thin h ds r n.2 k2)
end
theorem frz_get {j : Nat} : (frzAll bs ρ)[j]? = (ρ[j]?).map fun s => if j ∈ bs then s.map fun p => (false, p.2) else s := by
  unfold frzAll
  rw [List.getElem?_mapIdx]
/-- what came back may hold what was lent: it is frozen -/
theorem SR.frzAll (S : SR pp K B F0 F H σ ρ) (L : Lent K F H Fc σ ρ bs) (g : Grow Fc H F' H') : SR pp K B F0 F' H' σ (PM.frzAll bs ρ) where
  bh := S.bh.trans g.h
  fh := g.fh
  f0 := S.f0.trans (L.f.trans g.f)
  new := fun a o e => by
    rcases g.new a o e with z | z
    · rcases L.back a o z with z | ⟨i, hi, d, e1, e2, _, _⟩
      · exact S.new a o z
      · obtain ⟨v, e3, p, rfl, _, bp, _⟩ := S.sl i _ e1
        rw [e2] at e3; cases e3
        exact .inr bp
    · exact .inr (S.bh.none z)
  len := by unfold PM.frzAll; rw [List.length_mapIdx]; exact S.len
  sl := fun j s e => by
    rw [frz_get] at e
    cases q : ρ[j]? with
    | none => rw [q] at e; cases e
    | some s0 =>
      rw [q] at e
      have e : (if j ∈ bs then s0.map fun p => (false, p.2) else s0) = some s := Option.some.inj e
      cases s0 with
      | none =>
        split at e <;> cases e
      | some s0 =>
        obtain ⟨v, h1, h2⟩ := S.sl j _ q
        refine ⟨v, h1, ?_⟩
        by_cases hj : j ∈ bs
        · rw [if_pos hj] at e
          have e : (false, s0.2) = s := Option.some.inj e
          subst e
          obtain ⟨o, d⟩ := s0
          cases o with
          | false => exact Rep.mono (L.f.trans g.f) d v h2
          | true =>
            obtain ⟨a, rfl, _, _, k⟩ := h2
            exact k.rep (L.f.trans g.f) fun o ho => g.f a o (L.at_ j hj a o h1 ho)
        · rw [if_neg hj] at e
          have e := Option.some.inj e
          subst e
          obtain ⟨o, d⟩ := s0
          cases o with
          | false => exact Rep.mono (L.f.trans g.f) d v h2
          | true =>
            obtain ⟨a, rfl, fa, ba, k⟩ := h2
            refine ⟨a, rfl, ?_, ba, k.mono (L.f.trans g.f) fun o ho => g.h a o ho⟩
            cases q2 : F' a with
            | none => rfl
            | some u =>
              obtain ⟨o, ho⟩ := k.there
              rcases g.new a u q2 with z | z
              · rcases L.back a u z with z | ⟨i, hi, d', e1, e2, _, _⟩
                · rw [fa] at z; cases z
                · have := S.sep i j a d' d e1 q e2 h1
                  subst this
                  exact absurd hi hj
              · rw [ho] at z; cases z
  sep := fun i j p di dj e1 e2 e3 e4 => by
    have get : ∀ {j : Nat} {d : D}, (PM.frzAll bs ρ)[j]? = some (some (true, d)) → ρ[j]? = some (some (true, d)) := fun {j d} e => by
      rw [frz_get] at e
      cases q : ρ[j]? with
      | none => rw [q] at e; cases e
      | some s0 =>
        rw [q] at e
        have e : (if j ∈ bs then s0.map fun p => (false, p.2) else s0) = some (true, d) := Option.some.inj e
        by_cases hj : j ∈ bs
        · rw [if_pos hj] at e
          cases s0 with
          | none => cases e
          | some s0 => cases e
        · rw [if_neg hj] at e; rw [e]
    exact S.sep i j p di dj (get e1) (get e2) e3 e4
  pk := S.pk
end

/-! ### the promise of a def by its function -/
def spF (K : Fr) (mg : Str → Option Value) (f : FM) (n : Nat) : Sp := fun vs H Q E => vs.length = n ∧ ∃ F ds, Sub F H ∧ Reps K F ds vs ∧ match f ds with
  | .ok s => ∀ v F' H', Grow F H F' H' → VN K H F' H' s v → Q v H'
  | .exc e => ∀ F' H' cls d, Grow F H F' H' → XR K mg F' H' e cls d → E cls d H'
  | .bad => False
def callE (f : FM) (R : AM) : M Slot := R.bind fun r ρ => if r.2.all (owned ρ) then (match f r.1 with
    | .ok s => if r.2.isEmpty || noLS s then .ok s ρ else .ok s (frzAll r.2 ρ)
    | .exc e => if r.2.isEmpty || noLs (e.fs.map (·.2)) then .exc e ρ else .exc e (frzAll r.2 ρ)
    | .bad => .bad) else .bad
section
variable {X : Cx} {c : Ct} {e : Expr} {es : List Expr} {pos p : Pos} {k n : Nat} {fa : Addr} {fd : FuncData} {ps : List Str} {f : FM} {R : AM} {x : Str}
theorem Lent.nil {K : Fr} {F H Fc : Hp} {σ : L2.St} {ρ : Env} (L : Lent K F H Fc σ ρ []) {F' H' : Hp} (g : Grow Fc H F' H') : Grow F H F' H' := ⟨L.f.trans g.f, g.h, g.fh, fun a o e => by
  rcases g.new a o e with z | z
  · rcases L.back a o z with z | ⟨i, hi, _⟩
    · exact .inl z
    · cases hi
  · exact .inr z⟩
theorem call_tr (hK : c.K = X.K) (hM : c.mg = X.mg) (hn : ∀ ds, f ds ≠ .bad → ds.length = n) {σ : L2.St} {H : Hp} {Q : VK} (h : tE c (callE f R) σ H Q) : tCallSD (spF X.K X.mg f n) [] (fun σ cls d H => c.W cls d σ H) (tA c R) σ H Q := by
  obtain ⟨F, ρ, S, k⟩ := h
  refine ⟨F, ρ, S, k.step fun r ρ1 vs F1 H1 S1 r1 f1 h1 a1 => ?_⟩
  obtain ⟨ds, bs⟩ := r
  dsimp only at a1
  rw [List.append_nil]
  by_cases hb : bs.all (owned ρ1) = true
  · rw [if_pos hb] at a1
    obtain ⟨Fc, L⟩ := lend S1 hb
    have r1 : ARs c.K F1 H1 σ bs ds vs := r1
    have rep : Reps c.K Fc ds vs := L.rep r1
    have nb : f ds ≠ .bad := fun z => by rw [z] at a1; exact a1
    refine ⟨by rw [← rep.length]; exact hn ds nb, Fc, ds, L.h, hK ▸ rep, ?_⟩
    cases q : f ds with
    | bad => exact absurd q nb
    | ok s =>
      rw [q] at a1
      dsimp only at a1 ⊢
      intro v F' H' g vn
      rw [← hK] at vn
      by_cases he : (bs.isEmpty || noLS s) = true
      · rw [if_pos he] at a1
        cases bs with
        | nil => exact a1 v F' H' (S1.grow (L.nil g)) (L.nil g).f g.h (vn.vr S1)
        | cons b0 br =>
          have hno : noLS s = true := by simpa using he
          obtain ⟨Fn, gn, hnone, hsome, thin⟩ := L.keep S1.fh g
          refine a1 v Fn H' (S1.grow gn) gn.f gn.h (VN.vr (c := c) (H := H1) ?_ S1)
          obtain ⟨o, d⟩ := s
          cases o with
          | false => exact Rep.thin thin d v hno vn
          | true =>
            obtain ⟨a, rfl, ha, fa, kk⟩ := vn
            refine ⟨a, rfl, ha, hnone a fa, ?_⟩
            cases d with
            | lst ds' =>
              obtain ⟨vs', e1, e2⟩ := kk
              exact ⟨vs', e1, Reps.thin thin _ _ hno e2⟩
            | dic ks ds' =>
              obtain ⟨vs', e1, e2, e3⟩ := kk
              exact ⟨vs', e1, e2, Reps.thin thin _ _ hno e3⟩
            | _ => exact kk.elim
      · rw [if_neg he] at a1
        refine a1 v F' H' (S1.frzAll L g) (L.f.trans g.f) g.h ?_
        obtain ⟨o, d⟩ := s
        cases o with
        | false => exact ⟨vn, fun z => by cases z⟩
        | true =>
          obtain ⟨a, rfl, ha, fa, kk⟩ := vn
          refine ⟨⟨a, rfl, fa, S1.bh.none ha, kk⟩, fun _ i d' e1 e2 => ?_⟩
          obtain ⟨v', h1, b, rfl, _, _, k'⟩ := (S1.frzAll L g).sl i _ e1
          rw [e2] at h1; cases h1
          rw [frz_get] at e1
          cases q2 : ρ1[i]? with
          | none => rw [q2] at e1; cases e1
          | some s0 =>
            cases s0 with
            | none => rw [q2] at e1; simp only [Option.map_some, Option.map_none, ite_self] at e1; cases e1
            | some s0 =>
              rw [q2] at e1
              obtain ⟨v0, h0, k0⟩ := S1.sl i _ q2
              rw [e2] at h0; cases h0
              obtain ⟨o0, d0⟩ := s0
              cases o0 with
              | false =>
                have e1 := Option.some.inj e1
                split at e1 <;> cases e1
              | true =>
                obtain ⟨a', ea, _, _, k0⟩ := k0
                cases ea
                obtain ⟨o, ho⟩ := k0.there
                rw [ha] at ho; cases ho
    | exc x =>
      rw [q] at a1
      dsimp only at a1 ⊢
      intro F' H' cls d g xr
      rw [← hK, ← hM] at xr
      by_cases he : (bs.isEmpty || noLs (x.fs.map (·.2))) = true
      · rw [if_pos he] at a1
        cases bs with
        | nil => exact a1 F' H' cls d (S1.grow (L.nil g)) xr
        | cons b0 br =>
          have hno : noLs (x.fs.map (·.2)) = true := by simpa using he
          obtain ⟨Fn, gn, hnone, hsome, thin⟩ := L.keep S1.fh g
          refine a1 Fn H' cls d (S1.grow gn) ⟨xr.1, ?_⟩
          rcases xr.2 with z | ⟨dx, vs', e1, e2, e3⟩
          · exact .inl z
          · exact .inr ⟨dx, vs', e1, thin dx _ e2 (fun _ z => by cases z) (fun _ z => by cases z), Reps.thin thin _ _ hno e3⟩
      · rw [if_neg he] at a1
        exact a1 F' H' cls d (S1.frzAll L g) xr
  · rw [if_neg hb] at a1
    exact a1.elim
theorem e_call (G : FnOk X.prog X.w X.K X.mg X.base (CX X.prog X.w) k fa fd ps (spF X.K X.mg f n)) (hr : Room k X.A) (hK : c.K = X.K) (hM : c.mg = X.mg) (tk : Takes X c.W) (hn : ∀ ds, f ds ≠ .bad → ds.length = n) (hg : Gl X x) (hm : X.mg x = some (.ref fa)) (hkp : PySem.W.keepIn X.K (.ref fa) = true) (hb : Binds X.K fd ps [])
    (ha : PA X (e :: es) (tA c R)) (hdb : (x == ("__debug__" : Str)) = false := by decide) (he : starEach (e :: es) X.env = (false, eval e X.env) :: starEach es X.env := by rfl) (hpl : (backTo pos (starEach es X.env)).any (·.1) = false := by rfl) :
    PE X (.Call (.Name x p) (e :: es) [] pos) (tE c (callE f R)) :=
  (pe_callSD G hr hg hm hkp hb .nil (fun σ => passAt tk σ) ha hdb he hpl).imp fun _ _ _ h => call_tr hK hM hn h
end
end PM
namespace PM
open PySem L2 PyProof.Rows
variable {pp : Pin}

/-! ### stores into slots -/
section
variable {K : Fr} {B F0 F H F' H' : Hp} {σ : L2.St} {ρ : Env}
theorem get_set {α : Type} {l : List α} {i j : Nat} {x y : α} (e : (l.set i x)[j]? = some y) : (j = i ∧ y = x) ∨ (j ≠ i ∧ l[j]? = some y) := by
  by_cases h : j = i
  · subst h
    rw [List.getElem?_set] at e
    simp only [if_true] at e
    split at e
    · cases e; exact .inl ⟨rfl, rfl⟩
    · cases e
  · rw [List.getElem?_set_ne (Ne.symm h)] at e
    exact .inr ⟨h, e⟩
theorem SR.lt (S : SR pp K B F0 F H σ ρ) {i : Nat} (h : i < ρ.length) : i < σ.length := by rw [S.len]; exact h
/-- a value goes to a slot -/
theorem SR.set (S : SR pp K B F0 F H σ ρ) (i : Nat) {s : Slot} {v : V} (r : SlR K B F H s v) (n : s.1 = true → ∀ (j : Nat) (d : D), ρ[j]? = some (some (true, d)) → σ[j]? ≠ some (some v)) (fr : Pin.free pp i) : SR pp K B F0 F H (σ.set i (some v)) (ρ.set i (some s)) where
  pk := S.pk.set fr
  bh := S.bh
  fh := S.fh
  f0 := S.f0
  new := S.new
  len := by simpa using S.len
  sl := fun j t e => by
    rcases get_set e with ⟨rfl, h⟩ | ⟨h, e⟩
    · cases h
      have hj : j < ρ.length := by
        have := (List.getElem?_eq_some_iff.mp e).1
        simpa using this
      exact ⟨v, by rw [List.getElem?_set_self (S.lt hj)], r⟩
    · obtain ⟨u, h1, h2⟩ := S.sl j t e
      exact ⟨u, by rw [List.getElem?_set_ne (Ne.symm h)]; exact h1, h2⟩
  sep := fun a b p da db e1 e2 e3 e4 => by
    rcases get_set e1 with ⟨h1, q1⟩ | ⟨h1, f1⟩
    · rcases get_set e2 with ⟨h2, q2⟩ | ⟨h2, f2⟩
      · rw [h1, h2]
      · rcases get_set e3 with ⟨_, q3⟩ | ⟨z, _⟩
        · rw [List.getElem?_set_ne (Ne.symm h2)] at e4
          cases q1
          cases q3
          exact absurd e4 (n rfl b db f2)
        · exact absurd h1 z
    · rw [List.getElem?_set_ne (Ne.symm h1)] at e3
      rcases get_set e2 with ⟨h2, q2⟩ | ⟨h2, f2⟩
      · rcases get_set e4 with ⟨_, q4⟩ | ⟨z, _⟩
        · cases q2
          cases q4
          exact absurd e3 (n rfl a da f1)
        · exact absurd h2 z
      · rw [List.getElem?_set_ne (Ne.symm h2)] at e4
        exact S.sep a b p da db f1 f2 e3 e4
theorem SR.setF (S : SR pp K B F0 F H σ ρ) (i : Nat) {d : D} {v : V} (r : Rep K F d v) (fr : Pin.free pp i) : SR pp K B F0 F H (σ.set i (some v)) (ρ.set i (some (false, d))) := S.set i (s := (false, d)) r (fun z => by cases z) fr
/-- a slot forgotten -/
theorem SR.forget (S : SR pp K B F0 F H σ ρ) (i : Nat) {o : Option V} (fr : Pin.free pp i) : SR pp K B F0 F H (σ.set i o) (ρ.set i none) where
  pk := S.pk.set fr
  bh := S.bh
  fh := S.fh
  f0 := S.f0
  new := S.new
  len := by simpa using S.len
  sl := fun j t e => by
    rcases get_set e with ⟨rfl, h⟩ | ⟨h, e⟩
    · cases h
    · obtain ⟨u, h1, h2⟩ := S.sl j t e
      exact ⟨u, by rw [List.getElem?_set_ne (Ne.symm h)]; exact h1, h2⟩
  sep := fun a b p da db e1 e2 e3 e4 => by
    rcases get_set e1 with ⟨h1, q1⟩ | ⟨h1, e1⟩
    · cases q1
    · rcases get_set e2 with ⟨h2, q2⟩ | ⟨h2, e2⟩
      · cases q2
      · rw [List.getElem?_set_ne (Ne.symm h1)] at e3
        rw [List.getElem?_set_ne (Ne.symm h2)] at e4
        exact S.sep a b p da db e1 e2 e3 e4
/-- an owned list or dict is changed -/
theorem SR.upd (S : SR pp K B F0 F H σ ρ) {j : Nat} {d d' : D} {a : Addr} {o : HO} (e : ρ[j]? = some (some (true, d))) (ev : σ[j]? = some (some (.ref a))) (k : At K F (L2.upd H a o) d' a) : SR pp K B F0 F (L2.upd H a o) σ (ρ.set j (some (true, d'))) := by
  obtain ⟨v, e', b, rfl, fa, ba, k0⟩ := S.sl j _ e
  rw [ev] at e'; cases e'
  obtain ⟨o0, ho⟩ := k0.there
  have hj : j < ρ.length := (List.getElem?_eq_some_iff.mp e).1
  have upd_other : ∀ {p : Addr} {u : HO}, p ≠ a → H p = some u → L2.upd H a o p = some u := fun {p u} hp e => by rw [upd_ne hp]; exact e
  refine ⟨fun b u q => upd_other (ne_of_none q ba) (S.bh b u q), fun b u q => upd_other (ne_of_none q fa) (S.fh b u q), S.f0, S.new, by simpa using S.len, fun i t q => ?_, fun x y p dx dy q1 q2 q3 q4 => ?_, S.pk⟩
  · rcases get_set q with ⟨rfl, h⟩ | ⟨h, q⟩
    · cases h
      exact ⟨_, ev, a, rfl, fa, ba, k⟩
    · obtain ⟨u, h1, h2⟩ := S.sl i t q
      refine ⟨u, h1, ?_⟩
      obtain ⟨ow, di⟩ := t
      cases ow with
      | false => exact h2
      | true =>
        obtain ⟨p, rfl, fp, bp, kp⟩ := h2
        have np : p ≠ a := fun z => by
          subst z
          exact h (S.sep i j p di d q e h1 ev)
        exact ⟨p, rfl, fp, bp, kp.mono (Sub.refl _) fun u hu => upd_other np hu⟩
  · have old : ∀ {x : Nat} {dx : D}, (ρ.set j (some (true, d')))[x]? = some (some (true, dx)) → ∃ dx', ρ[x]? = some (some (true, dx')) := fun {x dx} q => by
      rcases get_set q with ⟨rfl, h⟩ | ⟨h, q⟩
      · exact ⟨_, e⟩
      · exact ⟨_, q⟩
    obtain ⟨dx', q1⟩ := old q1
    obtain ⟨dy', q2⟩ := old q2
    exact S.sep x y p dx' dy' q1 q2 q3 q4
end

/-! ### targets -/
abbrev Tg := D → Env → Option Env
structure TgOk (K : Fr) (g : TG) (T : Tg) (js : List Nat) : Prop where
  run : ∀ (pp : Pin) (B F0 F H : Hp) (σ : L2.St) (ρ : Env) (d : D) (v : V) (ρ' : Env) (Q : L2.St → Hp → Prop), (∀ j ∈ js, Pin.free pp j) → SR pp K B F0 F H σ ρ → Rep K F d v → T d ρ = some ρ' →
    (∀ σ', SR pp K B F0 F H σ' ρ' → σ'.length = σ.length → (∀ j, j ∉ js → σ'[j]? = σ[j]? ∧ ρ'[j]? = ρ[j]?) → Q σ' H) → g v σ H Q
def tgN (i : Nat) : Tg := fun d ρ => some (ρ.set i (some (false, d)))
theorem g_name {K : Fr} {i : Nat} : TgOk K (gName i) (tgN i) [i] := ⟨fun pp B F0 F H σ ρ d v ρ' Q fr S r e k => by
  cases e
  refine k _ (S.setF i r (fr i List.mem_cons_self)) (by simp) fun j hj => ?_
  have hj : j ≠ i := by simpa using hj
  exact ⟨List.getElem?_set_ne (Ne.symm hj), List.getElem?_set_ne (Ne.symm hj)⟩⟩
def tgs : List Tg → List D → Env → Option Env
  | [], [], ρ => some ρ
  | t :: ts, d :: ds, ρ => (t d ρ).bind (tgs ts ds)
  | _, _, _ => none
structure TgsOk (K : Fr) (n : Nat) (g : TGs) (T : List Tg) (js : List Nat) : Prop where
  run : ∀ (pp : Pin) (B F0 F H : Hp) (σ : L2.St) (ρ : Env) (ds : List D) (vs : List V) (ρ' : Env) (Q : L2.St → Hp → Prop), (∀ j ∈ js, Pin.free pp j) → SR pp K B F0 F H σ ρ → Reps K F ds vs → tgs T ds ρ = some ρ' →
    (∀ σ', SR pp K B F0 F H σ' ρ' → σ'.length = σ.length → (∀ j, j ∉ js → σ'[j]? = σ[j]? ∧ ρ'[j]? = ρ[j]?) → Q σ' H) → g vs σ H Q
  len : T.length = n
theorem g_nil {K : Fr} : TgsOk K 0 gNil [] [] := ⟨fun pp B F0 F H σ ρ ds vs ρ' Q fr S r e k => (by
  cases ds with
  | nil => cases e; exact ⟨r.inv0, k σ S rfl fun _ _ => ⟨rfl, rfl⟩⟩
  | cons _ _ => cases e), rfl⟩
theorem g_cons {K : Fr} {n : Nat} {g : TG} {gs : TGs} {T : Tg} {Ts : List Tg} {js ks : List Nat} (h : TgOk K g T js) (t : TgsOk K n gs Ts ks) : TgsOk K (n + 1) (gCons g gs) (T :: Ts) (js ++ ks) := ⟨fun pp B F0 F H σ ρ ds vs ρ' Q fr S r e k => (by
  cases ds with
  | nil => cases e
  | cons d ds =>
    obtain ⟨v, rs, rfl, r1, r2⟩ := r.inv
    unfold tgs at e
    cases q : T d ρ with
    | none => rw [q] at e; cases e
    | some ρ1 =>
      rw [q] at e
      refine ⟨v, rs, rfl, h.run pp B F0 F H σ ρ d v ρ1 _ (fun j hj => fr j (List.mem_append_left _ hj)) S r1 q fun σ1 S1 l1 k1 => t.run pp B F0 F H σ1 ρ1 ds rs ρ' _ (fun j hj => fr j (List.mem_append_right _ hj)) S1 r2 e fun σ2 S2 l2 k2 => k σ2 S2 (l2.trans l1) fun j hj => ?_⟩
      have h1 : j ∉ js := fun z => hj (List.mem_append_left _ z)
      have h2 : j ∉ ks := fun z => hj (List.mem_append_right _ z)
      exact ⟨(k2 j h2).1.trans (k1 j h1).1, (k2 j h2).2.trans (k1 j h1).2⟩), by rw [List.length_cons, t.len]⟩
def tgT (ts : List Tg) : Tg := fun d ρ => match d with | .tup ds => tgs ts ds ρ | _ => none
theorem tgs_len : ∀ {T : List Tg} {ds : List D} {ρ ρ' : Env}, tgs T ds ρ = some ρ' → ds.length = T.length
  | [], [], _, _, _ => rfl
  | [], _ :: _, _, _, e => by cases e
  | _ :: _, [], _, _, e => by cases e
  | t :: ts, d :: ds, ρ, ρ', e => by
    unfold tgs at e
    cases q : t d ρ with
    | none => rw [q] at e; cases e
    | some ρ1 =>
      rw [q] at e
      rw [List.length_cons, List.length_cons, tgs_len e]
theorem g_tup {K : Fr} {n : Nat} {g : TGs} {T : List Tg} {js : List Nat} (h : TgsOk K n g T js) : TgOk K (gTup K n g) (tgT T) js := ⟨fun pp B F0 F H σ ρ d v ρ' Q fr S r e k => by
  cases d with
  | tup ds =>
    unfold Rep at r
    obtain ⟨a, vs, rfl, s, r⟩ := r
    exact ⟨a, vs, rfl, S.fh.sqT s, by rw [← r.length, tgs_len e, h.len], h.run pp B F0 F H σ ρ ds vs ρ' Q fr S r e k⟩
  | _ => cases e⟩

/-! ### what is walked -/
structure JOk (K : Fr) (C F1 : Hp) (J : It) (ds : List D) : Prop where
  go : ∀ i H, Sub C H → i < ds.length → J.go i H
  yld : ∀ i F H x H', Sub C H → Sub F1 F → Sub F H → i < ds.length → J.yld i H x H' → ∃ F' d, Grow F H F' H' ∧ ds[i]? = some d ∧ Rep K F' d x
  stop : ∀ i H, Sub C H → ds.length ≤ i → J.stop i H
def rJ (c : Ct) : Hp → Hp → L2.St → Env → List D → It → Prop := fun F H _ _ ds J => JOk c.K H F J ds
def rK (c : Ct) : Hp → Hp → L2.St → Env → List D → It → Prop := fun F _ _ _ ds J => JOk c.K F F J ds
abbrev tJ (c : Ct) (A : M (List D)) : TI := tG c (rJ c) A
abbrev tK (c : Ct) (A : M (List D)) : TI := tG c (rK c) A
theorem _root_.L2.PI.imp {X : Cx} {tg e : Expr} {t t' : TI} (h : PI X tg e t) (k : ∀ σ H Q, t' σ H Q → t σ H Q) : PI X tg e t' := ⟨fun pins s σ H R I hw => h.run pins s σ H R I (k σ H R hw)⟩
section
variable {K : Fr} {C F1 : Hp}
theorem jok_list {a : Addr} {ds : List D} {vs : List V} (hC : Rd C a (.lst vs)) (r : Reps K F1 ds vs) : JOk K C F1 (Itl K a) ds where
  go := fun i H h hi => by
    obtain ⟨v, hv, _⟩ := r.get (List.getElem?_eq_getElem hi)
    exact ⟨vs, v, .inl (h.rd hC), hv⟩
  yld := fun i F H x H' h f fh hi y => by
    obtain ⟨rfl, y⟩ := y
    obtain ⟨d, hd, hr⟩ := r.getV (y vs (.inl (h.rd hC)))
    exact ⟨F, d, Grow.refl fh, hd, Rep.mono f _ _ hr⟩
  stop := fun i H h hi => ⟨vs, .inl (h.rd hC), by rw [← r.length]; exact hi⟩
theorem jok_tup {a : Addr} {ds : List D} {vs : List V} (hC : SqT K C a vs) (r : Reps K F1 ds vs) : JOk K C F1 (Itt K a) ds where
  go := fun i H h hi => by
    obtain ⟨v, hv, _⟩ := r.get (List.getElem?_eq_getElem hi)
    exact ⟨vs, v, h.sqT hC, hv⟩
  yld := fun i F H x H' h f fh hi y => by
    obtain ⟨rfl, y⟩ := y
    obtain ⟨d, hd, hr⟩ := r.getV (y vs (h.sqT hC))
    exact ⟨F, d, Grow.refl fh, hd, Rep.mono f _ _ hr⟩
  stop := fun i H h hi => ⟨vs, h.sqT hC, by rw [← r.length]; exact hi⟩
def signs (s : List Nat) : List D := s.map fun c => .str [c]
theorem jok_str {s : List Nat} : JOk K C F1 (Its (st s)) (signs s) where
  go := fun i H h hi => by
    show i < (st s).cps.size
    simpa [signs, st] using hi
  yld := fun i F H x H' h f fh hi y => by
    obtain ⟨rfl, k, hk, rfl⟩ := y
    have hk' : s[i]? = some k := by simpa [st] using hk
    exact ⟨F, .str [k], Grow.refl fh, by unfold signs; rw [List.getElem?_map, hk']; rfl, rfl⟩
  stop := fun i H h hi => by
    show (st s).cps.size ≤ i
    simpa [signs, st] using hi
def intsR (lo : Int) (n : Nat) : List D := (List.range n).map fun (i : Nat) => D.int (lo + (i : Int))
theorem jok_range {lo : Int} {n : Nat} : JOk K C F1 (Itr lo n) (intsR lo n) where
  go := fun i H h hi => by
    show i < n
    simpa [intsR] using hi
  yld := fun i F H x H' h f fh hi y => by
    obtain ⟨rfl, rfl⟩ := y
    have hi : i < n := by simpa [intsR] using hi
    exact ⟨F, .int (lo + i), Grow.refl fh, by unfold intsR; rw [List.getElem?_map, List.getElem?_range hi]; rfl, rfl⟩
  stop := fun i H h hi => by
    show n ≤ i
    simpa [intsR] using hi
def pairs (k : Nat) : List D → List D
  | [] => []
  | d :: ds => .tup [.int (k : Int), d] :: pairs (k + 1) ds
theorem pairs_get : ∀ {ds : List D} {k i : Nat}, (pairs k ds)[i]? = (ds[i]?).map fun d => .tup [.int ((k + i : Nat) : Int), d]
  | [], k, i => by simp [pairs]
  | d :: ds, k, 0 => by simp [pairs]
  | d :: ds, k, i + 1 => by
    unfold pairs
    rw [List.getElem?_cons_succ, List.getElem?_cons_succ, pairs_get]
    congr 1
    funext d
    have : k + 1 + i = k + (i + 1) := by omega
    rw [this]
theorem pairs_len : ∀ {ds : List D} {k : Nat}, (pairs k ds).length = ds.length
  | [], _ => rfl
  | d :: ds, k => by unfold pairs; rw [List.length_cons, List.length_cons, pairs_len]
theorem jok_enum {a : Addr} {ds : List D} {vs : List V} (hC : Rd C a (.lst vs)) (r : Reps K F1 ds vs) : JOk K C F1 (Ite K a) (pairs 0 ds) where
  go := fun i H h hi => by
    rw [pairs_len] at hi
    obtain ⟨v, hv, _⟩ := r.get (List.getElem?_eq_getElem hi)
    exact ⟨vs, v, .inl (h.rd hC), hv⟩
  yld := fun i F H x H' h f fh hi y => by
    obtain ⟨T, u, rfl, hT, rfl, y⟩ := y
    obtain ⟨d, hd, hr⟩ := r.getV (y vs (.inl (h.rd hC)))
    refine ⟨upd F T (.tup [.int (i : Nat), u]), .tup [.int ((i : Nat) : Int), d], growT fh hT, by rw [pairs_get, hd]; simp, ?_⟩
    unfold Rep
    exact ⟨T, _, rfl, .inl (.inl upd_same), Reps.cons rfl (Reps.cons (Rep.mono (f.trans (Sub.upd (fh.none hT))) _ _ hr) Reps.nil)⟩
  stop := fun i H h hi => ⟨vs, .inl (h.rd hC), by rw [pairs_len] at hi; rw [← r.length]; exact hi⟩
def zips : List D → List D → List D
  | a :: as, b :: bs => .tup [a, b] :: zips as bs
  | _, _ => []
theorem zips_get : ∀ {as bs : List D} {i : Nat} {a b : D}, as[i]? = some a → bs[i]? = some b → (zips as bs)[i]? = some (.tup [a, b])
  | [], bs, i, a, b, h, _ => by simp at h
  | _ :: _, [], i, a, b, _, h => by simp at h
  | x :: as, y :: bs, 0, a, b, h1, h2 => by simp at h1 h2; subst h1; subst h2; rfl
  | x :: as, y :: bs, i + 1, a, b, h1, h2 => by
    unfold zips
    rw [List.getElem?_cons_succ]
    exact zips_get (by simpa using h1) (by simpa using h2)
theorem zips_len : ∀ {as bs : List D}, (zips as bs).length = min as.length bs.length
  | [], bs => by simp [zips]
  | _ :: _, [] => by simp [zips]
  | x :: as, y :: bs => by unfold zips; rw [List.length_cons, List.length_cons, List.length_cons, zips_len]; omega
theorem jok_zip {a b : Addr} {ds es : List D} {vs us : List V} (hC : Rd C a (.lst vs)) (r : Reps K F1 ds vs) (hE : Rd C b (.lst us)) (q : Reps K F1 es us) : JOk K C F1 (Itz K a b) (zips ds es) where
  go := fun i H h hi => by
    rw [zips_len] at hi
    obtain ⟨v, hv, _⟩ := r.get (List.getElem?_eq_getElem (show i < ds.length by omega))
    obtain ⟨u, hu, _⟩ := q.get (List.getElem?_eq_getElem (show i < es.length by omega))
    exact ⟨vs, us, v, u, .inl (h.rd hC), .inl (h.rd hE), hv, hu⟩
  yld := fun i F H x H' h f fh hi y => by
    obtain ⟨T, u, w, rfl, hT, rfl, y1, y2⟩ := y
    obtain ⟨d, hd, hr⟩ := r.getV (y1 vs (.inl (h.rd hC)))
    obtain ⟨e, he, hs⟩ := q.getV (y2 us (.inl (h.rd hE)))
    refine ⟨upd F T (.tup [u, w]), .tup [d, e], growT fh hT, zips_get hd he, ?_⟩
    unfold Rep
    have ff := f.trans (Sub.upd (o := .tup [u, w]) (fh.none hT))
    exact ⟨T, _, rfl, .inl (.inl upd_same), Reps.cons (Rep.mono ff _ _ hr) (Reps.cons (Rep.mono ff _ _ hs) Reps.nil)⟩
  stop := fun i H h hi => ⟨vs, us, .inl (h.rd hC), .inl (h.rd hE), by rw [zips_len] at hi; rw [← r.length, ← q.length]; omega⟩
end
section
variable {X : Cx} {c : Ct} {tg l e : Expr} {es : List Expr} {pos p : Pos}
/-- a list, a tuple or a text that is walked -/
def itemsD : D → Option (List D)
  | .lst ds => some ds
  | .tup ds => some ds
  | .str s => some (signs s)
  | _ => none
def src (A : M D) : M (List D) := A.bind fun d => M.lift (itemsD d)
def iSeq (K : Fr) (tl : TE) : TI := fun σ H R => tl σ H fun x H1 => (∃ a, x = .ref a ∧ (∃ xs, SqL K H1 a xs) ∧ R (Itl K a) H1) ∨ (∃ a, x = .ref a ∧ (∃ xs, SqT K H1 a xs) ∧ R (Itt K a) H1) ∨ (∃ y, x = .str y ∧ R (Its y) H1)
theorem pi_seq {tl : TE} (hl : PE X l tl) : PI X tg l (iSeq X.K tl) := by
  refine ⟨fun pins s σ H R I h => ?_⟩
  refine thn (hl.run pins s σ H _ I h) fun v s1 ⟨x, H1, I1, r1, q1⟩ => ?_
  rcases q1 with ⟨a, e, ⟨xs, hq⟩, q⟩ | ⟨a, e, ⟨xs, hq⟩, q⟩ | ⟨y, e, q⟩
  · subst e
    cases r1
    obtain ⟨its, rv, p, hz⟩ := I1.list hq
    refine wpAny_pyIter_list p.isList ?_
    refine ⟨s1.heap.objs.size, [s1.heap.objs.size], _, _, H1, rfl, I1.kept (t' := s1.toks) fun b o e => Heap.get?_push_of_some _ e, turn_list a _, ⟨_, Heap.get?_push_size _ rfl, rfl, rfl⟩, fun b hb => ?_, q⟩
    have e : b = s1.heap.objs.size := by simpa using hb
    subst e
    exact I1.fpOk (Nat.le_refl _) (I1.hok.fresh (Nat.le_refl _))
  · subst e
    cases r1
    obtain ⟨its, rv, p, hz⟩ := I1.tuple hq
    refine wpAny_pyIter_tuple (show s1.heap.IsTuple a its.toArray from p) ?_
    refine ⟨s1.heap.objs.size, [s1.heap.objs.size], _, _, H1, rfl, I1.kept (t' := s1.toks) fun b o e => Heap.get?_push_of_some _ e, turn_tuple a _, ⟨_, Heap.get?_push_size _ rfl, rfl, rfl⟩, fun b hb => ?_, q⟩
    have e : b = s1.heap.objs.size := by simpa using hb
    subst e
    exact I1.fpOk (Nat.le_refl _) (I1.hok.fresh (Nat.le_refl _))
  · subst e
    obtain ⟨t, rfl⟩ := r1
    cases ha : y.cps.all (· < 128)
    · exact wpAny_pyIter_wide ha (pi_one (tk := s1.toks) I1 _ (turn_str _ y t "str_iterator" (.inr rfl)) ⟨_, Heap.get?_push_size _ rfl, rfl, rfl⟩ q)
    · exact wpAny_pyIter_ascii ha (pi_one (tk := s1.toks) I1 _ (turn_str _ y t "str_ascii_iterator" (.inl rfl)) ⟨_, Heap.get?_push_size _ rfl, rfl, rfl⟩ q)
theorem Aft.liftA {α β : Type} {R : Hp → Hp → L2.St → Env → α → β → Prop} {F H : Hp} {σ : L2.St} {ρ : Env} {o : Option α} {Q : β → Hp → Prop} (h : Aft c R F H σ (M.lift o ρ) Q) (S : SRc c F H σ ρ) :
    ∃ a, o = some a ∧ ∀ b F' H', Grow F H F' H' → R F' H' σ ρ a b → Q b H' := by
  cases o with
  | none => exact h.elim
  | some s => exact ⟨s, rfl, fun b F' H' g n => h b F' H' (S.grow g) g.f g.h n⟩
/-- .. in a comprehension: looked at -/
theorem j_src {A : M D} (hk : c.K = X.K) (h : PE X l (tP c A)) : PI X tg l (tJ c (src A)) := by
  refine (pi_seq h).imp fun σ H Q ⟨F, ρ, S, k⟩ => ⟨F, ρ, S, k.step fun d ρ1 x F1 H1 S1 r1 f1 h1 a1 => ?_⟩
  obtain ⟨ds, e, q⟩ := a1.liftA S1
  rw [← hk]
  cases d with
  | lst ds' =>
    cases e
    obtain ⟨a, vs, rfl, h2, k2⟩ := r1
    exact .inl ⟨a, rfl, ⟨vs, .inl h2⟩, q _ F1 H1 (Grow.refl S1.fh) (jok_list h2 k2)⟩
  | tup ds' =>
    cases e
    obtain ⟨a, vs, rfl, h2, k2⟩ := pkTup r1
    exact .inr (.inl ⟨a, rfl, ⟨vs, S1.fh.sqT h2⟩, q _ F1 H1 (Grow.refl S1.fh) (jok_tup (S1.fh.sqT h2) k2)⟩)
  | str s =>
    cases e
    exact .inr (.inr ⟨_, r1, q _ F1 H1 (Grow.refl S1.fh) jok_str⟩)
  | _ => cases e
/-- .. in a for: frozen -/
theorem k_src {A : M D} (hk : c.K = X.K) (h : PE X l (tF c A)) : PI X tg l (tK c (src A)) := by
  refine (pi_seq h).imp fun σ H Q ⟨F, ρ, S, k⟩ => ⟨F, ρ, S, k.step fun d ρ1 x F1 H1 S1 r1 f1 h1 a1 => ?_⟩
  obtain ⟨ds, e, q⟩ := a1.liftA S1
  rw [← hk]
  have r1 : Rep c.K F1 d x := r1
  cases d with
  | lst ds' =>
    cases e
    unfold Rep at r1
    obtain ⟨a, vs, rfl, h2, k2⟩ := r1
    exact .inl ⟨a, rfl, ⟨vs, .inl (S1.fh.rd h2)⟩, q _ F1 H1 (Grow.refl S1.fh) (jok_list h2 k2)⟩
  | tup ds' =>
    cases e
    unfold Rep at r1
    obtain ⟨a, vs, rfl, h2, k2⟩ := r1
    exact .inr (.inl ⟨a, rfl, ⟨vs, S1.fh.sqT h2⟩, q _ F1 H1 (Grow.refl S1.fh) (jok_tup h2 k2)⟩)
  | str s =>
    cases e
    exact .inr (.inr ⟨_, r1, q _ F1 H1 (Grow.refl S1.fh) jok_str⟩)
  | _ => cases e
/-- range -/
def rng1 (R : M (List D)) : M (List D) := R.bind fun ds => M.lift (match ds with | [.int j] => if -(2 ^ 62) ≤ j ∧ j < 2 ^ 62 then some (intsR 0 j.toNat) else none | _ => none)
def rng2 (R : M (List D)) : M (List D) := R.bind fun ds => M.lift (match ds with | [.int i, .int j] => if -(2 ^ 62) ≤ i ∧ i < 2 ^ 62 ∧ -(2 ^ 62) ≤ j ∧ j < 2 ^ 62 then some (intsR i (j - i).toNat) else none | _ => none)
theorem rng1_tr {R : M (List D)} {Rel : Hp → Hp → L2.St → Env → List D → It → Prop} (hR : ∀ F H σ ρ lo n, Rel F H σ ρ (intsR lo n) (Itr lo n)) {σ : L2.St} {H : Hp} {Q : It → Hp → Prop} (h : tG c Rel (rng1 R) σ H Q) : iRng1 (tPs c R) σ H Q := by
  obtain ⟨F, ρ, S, k⟩ := h
  refine ⟨F, ρ, S, k.step fun ds ρ1 xs F1 H1 S1 r1 f1 h1 a1 => ?_⟩
  obtain ⟨as, e, q⟩ := a1.liftA S1
  split at e
  · split at e
    · cases e
      rename_i hj
      obtain ⟨x, rfl, r2⟩ := PkRs.one r1
      have r2 : x = .int _ := r2
      subst r2
      exact ⟨_, rfl, hj.1, hj.2, q _ F1 H1 (Grow.refl S1.fh) (hR _ _ _ _ _ _)⟩
    · cases e
  · cases e
theorem rng2_tr {R : M (List D)} {Rel : Hp → Hp → L2.St → Env → List D → It → Prop} (hR : ∀ F H σ ρ lo n, Rel F H σ ρ (intsR lo n) (Itr lo n)) {σ : L2.St} {H : Hp} {Q : It → Hp → Prop} (h : tG c Rel (rng2 R) σ H Q) : iRng2 (tPs c R) σ H Q := by
  obtain ⟨F, ρ, S, k⟩ := h
  refine ⟨F, ρ, S, k.step fun ds ρ1 xs F1 H1 S1 r1 f1 h1 a1 => ?_⟩
  obtain ⟨as, e, q⟩ := a1.liftA S1
  split at e
  · split at e
    · cases e
      rename_i hj
      obtain ⟨x, y, rfl, r2, r3⟩ := PkRs.two r1
      have r2 : x = .int _ := r2
      have r3 : y = .int _ := r3
      subst r2
      subst r3
      exact ⟨_, _, rfl, hj, q _ F1 H1 (Grow.refl S1.fh) (hR _ _ _ _ _ _)⟩
    · cases e
  · cases e
theorem j_rng1 {R : M (List D)} {a : Expr} (hg : Gl X "range") (hm : X.mg "range" = none) (ha : PA X [a] (tPs c R)) (hs : starEach [a] X.env = [(false, eval a X.env)] := by rfl) : PI X tg (.Call (.Name "range" p) [a] [] pos) (tJ c (rng1 R)) :=
  (pi_range1 hg hm ha hs).imp fun _ _ _ h => rng1_tr (fun _ _ _ _ _ _ => jok_range) h
theorem k_rng1 {R : M (List D)} {a : Expr} (hg : Gl X "range") (hm : X.mg "range" = none) (ha : PA X [a] (tPs c R)) (hs : starEach [a] X.env = [(false, eval a X.env)] := by rfl) : PI X tg (.Call (.Name "range" p) [a] [] pos) (tK c (rng1 R)) :=
  (pi_range1 hg hm ha hs).imp fun _ _ _ h => rng1_tr (fun _ _ _ _ _ _ => jok_range) h
theorem j_rng2 {R : M (List D)} {a b : Expr} (hg : Gl X "range") (hm : X.mg "range" = none) (ha : PA X [a, b] (tPs c R)) (hs : starEach [a, b] X.env = [(false, eval a X.env), (false, eval b X.env)] := by rfl) (hs2 : starEach [b] X.env = [(false, eval b X.env)] := by rfl) :
    PI X tg (.Call (.Name "range" p) [a, b] [] pos) (tJ c (rng2 R)) := (pi_range2 hg hm ha hs hs2).imp fun _ _ _ h => rng2_tr (fun _ _ _ _ _ _ => jok_range) h
theorem k_rng2 {R : M (List D)} {a b : Expr} (hg : Gl X "range") (hm : X.mg "range" = none) (ha : PA X [a, b] (tPs c R)) (hs : starEach [a, b] X.env = [(false, eval a X.env), (false, eval b X.env)] := by rfl) (hs2 : starEach [b] X.env = [(false, eval b X.env)] := by rfl) :
    PI X tg (.Call (.Name "range" p) [a, b] [] pos) (tK c (rng2 R)) := (pi_range2 hg hm ha hs hs2).imp fun _ _ _ h => rng2_tr (fun _ _ _ _ _ _ => jok_range) h
/-- enumerate, zip of lists -/
def enumL (R : M (List D)) : M (List D) := R.bind fun ds => M.lift (match ds with | [.lst xs] => some (pairs 0 xs) | _ => none)
def zipL (R : M (List D)) : M (List D) := R.bind fun ds => M.lift (match ds with | [.lst xs, .lst ys] => some (zips xs ys) | _ => none)
theorem j_enum {R : M (List D)} {tpos : Pos} {elts : List Expr} {kk : Nat} (hk : c.K = X.K) (hg : Gl X "enumerate") (hm : X.mg "enumerate" = none) (ha : PA X [e] (tPs c R)) (hs : starEach [e] X.env = [(false, eval e X.env)] := by rfl) :
    PI X (.Tuple elts kk tpos) (.Call (.Name "enumerate" p) [e] [] pos) (tJ c (enumL R)) := by
  refine (pi_enum hg hm ha hs).imp fun σ H Q ⟨F, ρ, S, k⟩ => ⟨F, ρ, S, k.step fun ds ρ1 xs F1 H1 S1 r1 f1 h1 a1 => ?_⟩
  obtain ⟨as, e, q⟩ := a1.liftA S1
  rw [← hk]
  split at e
  · cases e
    obtain ⟨x, rfl, a, vs, rfl, h2, k2⟩ := PkRs.one r1
    exact ⟨a, vs, rfl, .inl h2, q _ F1 H1 (Grow.refl S1.fh) (jok_enum h2 k2)⟩
  · cases e
theorem j_zip {R : M (List D)} {e2 : Expr} {tpos : Pos} {elts : List Expr} {kk : Nat} (hk : c.K = X.K) (hg : Gl X "zip") (hm : X.mg "zip" = none) (ha : PA X [e, e2] (tPs c R)) (hs : starEach [e, e2] X.env = (false, eval e X.env) :: starEach [e2] X.env := by rfl) (hpl : (backTo pos (starEach [e2] X.env)).any (·.1) = false := by rfl) :
    PI X (.Tuple elts kk tpos) (.Call (.Name "zip" p) [e, e2] [] pos) (tJ c (zipL R)) := by
  refine (pi_zip hg hm ha hs hpl).imp fun σ H Q ⟨F, ρ, S, k⟩ => ⟨F, ρ, S, k.step fun ds ρ1 xs F1 H1 S1 r1 f1 h1 a1 => ?_⟩
  obtain ⟨as, e, q⟩ := a1.liftA S1
  rw [← hk]
  split at e
  · cases e
    obtain ⟨x, y, rfl, ⟨a, vs, rfl, h2, k2⟩, ⟨b, us, rfl, h3, k3⟩⟩ := PkRs.two r1
    exact ⟨a, b, vs, us, rfl, .inl h2, .inl h3, q _ F1 H1 (Grow.refl S1.fh) (jok_zip h2 k2 h3 k3)⟩
  · cases e
theorem PkRs.ofF {K : Fr} {F H : Hp} (fh : Sub F H) : ∀ {ds : List D} {vs : List V}, Reps K F ds vs → PkRs K F H ds vs
  | [], vs, h => h.inv0
  | d :: ds, vs, h => by
    obtain ⟨v, r, rfl, k1, k2⟩ := h.inv
    exact ⟨v, r, rfl, Rep.pk fh k1, PkRs.ofF fh k2⟩
theorem k_enum {R : M (List D)} {tpos : Pos} {elts : List Expr} {kk : Nat} (hk : c.K = X.K) (hg : Gl X "enumerate") (hm : X.mg "enumerate" = none) (ha : PA X [e] (tFs c R)) (hs : starEach [e] X.env = [(false, eval e X.env)] := by rfl) :
    PI X (.Tuple elts kk tpos) (.Call (.Name "enumerate" p) [e] [] pos) (tK c (enumL R)) := by
  refine (pi_enum hg hm ha hs).imp fun σ H Q ⟨F, ρ, S, k⟩ => ⟨F, ρ, S, k.step fun ds ρ1 xs F1 H1 S1 r1 f1 h1 a1 => ?_⟩
  obtain ⟨as, e, q⟩ := a1.liftA S1
  rw [← hk]
  split at e
  · cases e
    obtain ⟨x, r, rfl, k2, k3⟩ := Reps.inv r1
    have k3 := k3.inv0
    subst k3
    unfold Rep at k2
    obtain ⟨a, vs, rfl, h2, k2⟩ := k2
    exact ⟨a, vs, rfl, .inl (S1.fh.rd h2), q _ F1 H1 (Grow.refl S1.fh) (jok_enum h2 k2)⟩
  · cases e
theorem k_zip {R : M (List D)} {e2 : Expr} {tpos : Pos} {elts : List Expr} {kk : Nat} (hk : c.K = X.K) (hg : Gl X "zip") (hm : X.mg "zip" = none) (ha : PA X [e, e2] (tFs c R)) (hs : starEach [e, e2] X.env = (false, eval e X.env) :: starEach [e2] X.env := by rfl) (hpl : (backTo pos (starEach [e2] X.env)).any (·.1) = false := by rfl) :
    PI X (.Tuple elts kk tpos) (.Call (.Name "zip" p) [e, e2] [] pos) (tK c (zipL R)) := by
  refine (pi_zip hg hm ha hs hpl).imp fun σ H Q ⟨F, ρ, S, k⟩ => ⟨F, ρ, S, k.step fun ds ρ1 xs F1 H1 S1 r1 f1 h1 a1 => ?_⟩
  obtain ⟨as, e, q⟩ := a1.liftA S1
  rw [← hk]
  split at e
  · cases e
    obtain ⟨x, r, rfl, k2, k3⟩ := Reps.inv r1
    obtain ⟨y, r', rfl, k4, k5⟩ := k3.inv
    have k5 := k5.inv0
    subst k5
    unfold Rep at k2 k4
    obtain ⟨a, vs, rfl, h2, k2⟩ := k2
    obtain ⟨b, us, rfl, h4, k4⟩ := k4
    exact ⟨a, b, vs, us, rfl, .inl (S1.fh.rd h2), .inl (S1.fh.rd h4), q _ F1 H1 (Grow.refl S1.fh) (jok_zip h2 k2 h4 k4)⟩
  · cases e
end
end PM
namespace PM
open PySem L2 PyProof.Rows
variable {pp : Pin}

/-! ### list comprehensions -/
def wipeE (ρ : Env) : List Nat → Env
  | [] => ρ
  | v :: vs => (wipeE ρ vs).set v none
def restE (ρ ρ2 : Env) : List Nat → Env
  | [] => ρ2
  | v :: vs => (restE ρ ρ2 vs).set v (ρ[v]?).join
section
variable {K : Fr} {B F0 F H F2 H2 : Hp} {σ σ2 : L2.St} {ρ ρ2 : Env} {vs : List Nat}
theorem SR.wipe (S : SR pp K B F0 F H σ ρ) : ∀ vs : List Nat, (∀ j ∈ vs, Pin.free pp j) → SR pp K B F0 F H (L2.wipe σ vs) (wipeE ρ vs)
  | [], _ => S
  | v :: vs, fr => (SR.wipe S vs fun j hj => fr j (List.mem_cons_of_mem _ hj)).forget v (fr v List.mem_cons_self)
theorem wipe_get {j : Nat} : ∀ {vs : List Nat}, j ∉ vs → (L2.wipe σ vs)[j]? = σ[j]?
  | [], _ => rfl
  | v :: vs, h => by
    unfold L2.wipe
    rw [List.getElem?_set_ne (fun z => h (by rw [z]; exact List.mem_cons_self)), wipe_get fun z => h (List.mem_cons_of_mem _ z)]
theorem wipe_in {j : Nat} : ∀ {vs : List Nat}, j ∈ vs → j < σ.length → (L2.wipe σ vs)[j]? = some none
  | [], h, _ => by cases h
  | v :: vs, h, hl => by
    unfold L2.wipe
    by_cases e : v = j
    · subst e
      rw [List.getElem?_set_self (by rw [wipe_length]; exact hl)]
    · rw [List.getElem?_set_ne e]
      exact wipe_in ((List.mem_cons.mp h).resolve_left fun z => e z.symm) hl
theorem wipe_ext (hl : σ2.length = σ.length) (h : ∀ j, j ∉ vs → σ2[j]? = σ[j]?) : L2.wipe σ2 vs = L2.wipe σ vs := by
  apply List.ext_getElem?
  intro j
  by_cases hj : j ∈ vs
  · by_cases hz : j < σ.length
    · rw [wipe_in hj hz, wipe_in hj (by rw [hl]; exact hz)]
    · rw [List.getElem?_eq_none (by rw [wipe_length]; omega), List.getElem?_eq_none (by rw [wipe_length]; omega)]
  · rw [wipe_get hj, wipe_get hj, h j hj]
theorem wipeE_length (ρ : Env) : ∀ vs : List Nat, (wipeE ρ vs).length = ρ.length
  | [] => rfl
  | v :: vs => by unfold wipeE; rw [List.length_set, wipeE_length ρ vs]
theorem rest_length (ρ ρ2 : Env) : ∀ vs : List Nat, (restE ρ ρ2 vs).length = ρ2.length
  | [] => rfl
  | v :: vs => by unfold restE; rw [List.length_set, rest_length ρ ρ2 vs]
theorem rest_get {j : Nat} : ∀ {vs : List Nat}, j ∉ vs → (restE ρ ρ2 vs)[j]? = ρ2[j]?
  | [], _ => rfl
  | v :: vs, h => by
    unfold restE
    rw [List.getElem?_set_ne (fun z => h (by rw [z]; exact List.mem_cons_self)), rest_get fun z => h (List.mem_cons_of_mem _ z)]
theorem rest_in {j : Nat} : ∀ {vs : List Nat}, j ∈ vs → j < ρ2.length → (restE ρ ρ2 vs)[j]? = some (ρ[j]?).join
  | [], h, _ => by cases h
  | v :: vs, h, hl => by
    unfold restE
    by_cases e : v = j
    · subst e
      rw [List.getElem?_set_self (by rw [rest_length]; exact hl)]
    · rw [List.getElem?_set_ne e]
      exact rest_in ((List.mem_cons.mp h).resolve_left fun z => e z.symm) hl
def clean (vs : List Nat) (ρ : Env) : Bool := vs.all fun j => !owned ρ j
theorem SR.rest (S : SR pp K B F0 F H σ ρ) (S2 : SR pp K B F0 F2 H2 σ2 ρ2) (f : Sub F F2) (hl : σ2.length = σ.length) (hs : ∀ j, j ∉ vs → σ2[j]? = σ[j]?) (hc : clean vs ρ = true) : SR pp K B F0 F2 H2 σ (restE ρ ρ2 vs) where
  pk := S.pk
  bh := S2.bh
  fh := S2.fh
  f0 := S2.f0
  new := S2.new
  len := by rw [rest_length, ← S2.len, hl]
  sl := fun j s e => by
    by_cases hj : j ∈ vs
    · have hlt : j < ρ2.length := by
        have := (List.getElem?_eq_some_iff.mp e).1
        rwa [rest_length] at this
      rw [rest_in hj hlt] at e
      cases q : ρ[j]? with
      | none => rw [q] at e; cases e
      | some s0 =>
        rw [q] at e
        cases s0 with
        | none => cases e
        | some s0 =>
          have e : s0 = s := by simpa using e
          subst e
          obtain ⟨v, h1, h2⟩ := S.sl j _ q
          have := List.all_eq_true.mp hc j hj
          obtain ⟨o, d⟩ := s0
          cases o with
          | false => exact ⟨v, h1, Rep.mono f d v h2⟩
          | true => unfold owned at this; rw [q] at this; cases this
    · rw [rest_get hj] at e
      obtain ⟨v, h1, h2⟩ := S2.sl j s e
      exact ⟨v, by rw [← hs j hj]; exact h1, h2⟩
  sep := fun a b p da db e1 e2 e3 e4 => by
    have out : ∀ {j : Nat} {d : D}, (restE ρ ρ2 vs)[j]? = some (some (true, d)) → j ∉ vs := fun {j d} e hj => by
      have hlt : j < ρ2.length := by
        have := (List.getElem?_eq_some_iff.mp e).1
        rwa [rest_length] at this
      rw [rest_in hj hlt] at e
      cases q : ρ[j]? with
      | none => rw [q] at e; cases e
      | some s0 =>
        rw [q] at e
        have e : s0 = some (true, d) := by simpa using e
        subst e
        have := List.all_eq_true.mp hc j hj
        unfold owned at this
        rw [q] at this
        cases this
    have h1 := out e1
    have h2 := out e2
    rw [rest_get h1] at e1
    rw [rest_get h2] at e2
    rw [← hs a h1] at e3
    rw [← hs b h2] at e4
    exact S2.sep a b p da db e1 e2 e3 e4
theorem clean_rest (hc : clean vs ρ = true) (hl : ρ2.length = ρ.length) : clean vs (restE ρ ρ2 vs) = true := by
  refine List.all_eq_true.mpr fun j hj => ?_
  have := List.all_eq_true.mp hc j hj
  unfold owned at this ⊢
  by_cases hz : j < ρ2.length
  · rw [rest_in hj hz]
    cases q : ρ[j]? with
    | none => rfl
    | some s0 => rw [q] at this; exact this
  · rw [List.getElem?_eq_none (by rw [rest_length]; omega)]
    rfl
/-- a cell of our own is kept from becoming data -/
theorem SR.guard (S : SR pp K B F0 F H σ ρ) {D : Addr} {o : HO} (h : H D = none) : SR pp K (L2.upd B D o) F0 F (L2.upd H D o) σ ρ where
  pk := S.pk
  bh := fun a u e => by
    by_cases z : a = D
    · subst z; rw [upd_same] at e ⊢; exact e
    · rw [upd_ne z] at e ⊢; exact S.bh a u e
  fh := S.fh.trans (Sub.upd h)
  f0 := S.f0
  new := fun a u e => by
    rcases S.new a u e with z | z
    · exact .inl z
    · have : a ≠ D := ne_of_none (S.fh a u e) h
      exact .inr (by rw [upd_ne this]; exact z)
  len := S.len
  sl := fun j s e => by
    obtain ⟨v, h1, h2⟩ := S.sl j s e
    refine ⟨v, h1, ?_⟩
    obtain ⟨ow, d⟩ := s
    cases ow with
    | false => exact h2
    | true =>
      obtain ⟨p, rfl, fp, bp, kp⟩ := h2
      obtain ⟨u, hu⟩ := kp.there
      have np : p ≠ D := ne_of_none hu h
      exact ⟨p, rfl, fp, by rw [upd_ne np]; exact bp, kp.mono (Sub.refl _) fun u hu => by rw [upd_ne np]; exact hu⟩
  sep := S.sep
theorem SR.unguard {D : Addr} {o : HO} (S : SR pp K (L2.upd B D o) F0 F H σ ρ) (hB : B D = none) : SR pp K B F0 F H σ ρ where
  pk := S.pk
  bh := (Sub.upd hB).trans S.bh
  fh := S.fh
  f0 := S.f0
  new := fun a u e => by
    rcases S.new a u e with z | z
    · exact .inl z
    · refine .inr ?_
      by_cases q : a = D
      · subst q; exact hB
      · rw [upd_ne q] at z; exact z
  len := S.len
  sl := fun j s e => by
    obtain ⟨v, h1, h2⟩ := S.sl j s e
    refine ⟨v, h1, ?_⟩
    obtain ⟨ow, d⟩ := s
    cases ow with
    | false => exact h2
    | true =>
      obtain ⟨p, rfl, fp, bp, kp⟩ := h2
      exact ⟨p, rfl, fp, (Sub.upd hB).none bp, kp⟩
  sep := S.sep
theorem SR.regard {D : Addr} {o o' : HO} (S : SR pp K (L2.upd B D o) F0 F H σ ρ) (hF : F D = none) : SR pp K (L2.upd B D o') F0 F (L2.upd H D o') σ ρ where
  pk := S.pk
  bh := fun a u e => by
    by_cases z : a = D
    · subst z; rw [upd_same] at e ⊢; exact e
    · rw [upd_ne z] at e ⊢; exact S.bh a u (by rw [upd_ne z]; exact e)
  fh := fun a u e => by
    have : a ≠ D := ne_of_none e hF
    rw [upd_ne this]; exact S.fh a u e
  f0 := S.f0
  new := fun a u e => by
    have : a ≠ D := ne_of_none e hF
    rcases S.new a u e with z | z
    · exact .inl z
    · exact .inr (by rw [upd_ne this] at z ⊢; exact z)
  len := S.len
  sl := fun j s e => by
    obtain ⟨v, h1, h2⟩ := S.sl j s e
    refine ⟨v, h1, ?_⟩
    obtain ⟨ow, d⟩ := s
    cases ow with
    | false => exact h2
    | true =>
      obtain ⟨p, rfl, fp, bp, kp⟩ := h2
      have np : p ≠ D := fun z => by subst z; rw [upd_same] at bp; cases bp
      exact ⟨p, rfl, fp, by rw [upd_ne np] at bp ⊢; exact bp, kp.mono (Sub.refl _) fun u hu => by rw [upd_ne np]; exact hu⟩
  sep := S.sep
theorem SR.unheld {D : Addr} {o : HO} (S : SR pp K (L2.upd B D o) F0 F H σ ρ) (h0 : F0 D = none) : F D = none := by
  cases q : F D with
  | none => rfl
  | some u =>
    rcases S.new D u q with z | z
    · rw [h0] at z; cases z
    · rw [upd_same] at z; cases z
end
def compF (T : Tg) (G : M Bool) (E : M D) (vs : List Nat) : List D → Env → Out (List D)
  | [], ρ => .ok [] ρ
  | d :: ds, ρ => match T d (wipeE ρ vs) with
    | none => .bad
    | some ρ1 => match G ρ1 with
      | .ok false ρ2 => compF T G E vs ds (restE ρ ρ2 vs)
      | .ok true ρ2 => (match E ρ2 with
        | .ok x ρ3 => (match compF T G E vs ds (restE ρ ρ3 vs) with
          | .ok xs ρ4 => .ok (x :: xs) ρ4
          | .exc e ρ4 => .exc e ρ4
          | .bad => .bad)
        | _ => .bad)
      | _ => .bad
def lcE (A : M (List D)) (T : Tg) (G : M Bool) (E : M D) (vs : List Nat) : M Slot := A.bind fun ds ρ =>
  if clean vs ρ && decide (ds.length < sizeLine) then (match compF T G E vs ds ρ with
    | .ok xs ρ' => .ok (true, .lst xs) ρ'
    | _ => .bad) else .bad
abbrev cB (c : Ct) (B : Hp) : Ct := { c with B := B, W := fun _ _ _ _ => False }
def xT (c : Ct) (G : M Bool) : TT := fun σ H Q => ∃ B, tT (cB c B) G σ H Q
def xF (c : Ct) (E : M D) : TE := fun σ H Q => ∃ B, tF (cB c B) E σ H Q
theorem lc_tr {c : Ct} {A : M (List D)} {T : Tg} {G : M Bool} {E : M D} {vs js : List Nat} {g : TG} (hg : TgOk c.K g T js) (hjs : ∀ j ∈ js, j ∈ vs) (fr : ∀ j ∈ vs, Pin.free c.pp j) {σ : L2.St} {H : Hp} {Q : VK} (h : tE c (lcE A T G E vs) σ H Q) : tLc (tJ c A) g (xT c G) (xF c E) vs σ H Q := by
  obtain ⟨F, ρ, S, k⟩ := h
  refine ⟨F, ρ, S, k.step fun ds ρ1 J F1 H1 S1 r1 f1 h1 a1 D hD => ?_⟩
  have r1 : JOk c.K H1 F1 J ds := r1
  by_cases hcl : (clean vs ρ1 && decide (ds.length < sizeLine)) = true
  · rw [if_pos hcl] at a1
    have hcl := Bool.and_eq_true_iff.mp hcl
    have hsz : ds.length < sizeLine := of_decide_eq_true hcl.2
    cases hall : compF T G E vs ds ρ1 with
    | exc e r => rw [hall] at a1; exact a1.elim
    | bad => rw [hall] at a1; exact a1.elim
    | ok xs ρe =>
      rw [hall] at a1
      dsimp only at a1
      have hF0 : c.F0 D = none := (S1.f0.trans S1.fh).none hD
      have hB0 : c.B D = none := S1.bh.none hD
      refine ⟨fun i m H' => m = ds.length - i ∧ i ≤ ds.length ∧ ∃ F' ρ' acc us es, H' D = some (.lst us) ∧ Reps c.K F' acc us ∧ SR c.pp c.K (upd c.B D (.lst us)) c.F0 F' H' σ ρ' ∧ Sub F1 F' ∧ Sub H1 H' ∧ clean vs ρ' = true ∧ ρ'.length = ρ1.length ∧ compF T G E vs (ds.drop i) ρ' = .ok es ρe ∧ xs = acc ++ es ∧ acc.length ≤ i,
        ⟨ds.length, rfl, Nat.zero_le _, F1, ρ1, [], [], xs, upd_same, Reps.nil, S1.guard hD, Sub.refl _, Sub.upd hD, hcl.1, rfl, hall, rfl, Nat.le_refl _⟩, ?_⟩
      rintro i m H' ⟨rfl, hi, F', ρ', acc, us, es, hDu, ru, S', f', g', cl', ln', hc, rfl, hal⟩
      have hFD : F' D = none := S'.unheld hF0
      rcases Nat.lt_or_ge i ds.length with hlt | hge
      · refine .inr ⟨r1.go i H' g' hlt, ?_⟩
        refine ⟨fun H2 => ∃ F2 ρ2 acc2 us2 es2, H2 D = some (.lst us2) ∧ Reps c.K F2 acc2 us2 ∧ SR c.pp c.K (upd c.B D (.lst us2)) c.F0 F2 H2 σ ρ2 ∧ Sub F1 F2 ∧ Sub H1 H2 ∧ clean vs ρ2 = true ∧ ρ2.length = ρ1.length ∧ compF T G E vs (ds.drop (i + 1)) ρ2 = .ok es2 ρe ∧ acc ++ es = acc2 ++ es2 ∧ acc2.length ≤ i + 1,
          fun H2 hx => ⟨ds.length - (i + 1), by omega, rfl, by omega, hx⟩, fun x H2 y => ?_⟩
        obtain ⟨F2, d, g2, hd, rd⟩ := r1.yld i F' H' x H2 g' f' S'.fh hlt y
        have S2 := S'.grow g2
        have edrop : ds.drop i = d :: ds.drop (i + 1) := by
          rw [List.drop_eq_getElem_cons hlt]
          have : ds[i] = d := by
            rw [List.getElem?_eq_getElem hlt] at hd
            exact Option.some.inj hd
          rw [this]
        rw [edrop] at hc
        unfold compF at hc
        cases hT : T d (wipeE ρ' vs) with
        | none => rw [hT] at hc; cases hc
        | some ρ2 =>
          rw [hT] at hc
          dsimp only at hc
          refine hg.run _ _ _ _ _ _ _ d x ρ2 _ (fun j hj => fr j (hjs j hj)) (S2.wipe vs fr) rd hT fun σ2 T2 l2 k2 => ?_
          rw [wipe_length] at l2
          have hs : ∀ j, j ∉ vs → σ2[j]? = σ[j]? := fun j hj => by rw [(k2 j fun z => hj (hjs j z)).1, wipe_get hj]
          have hDu2 : H2 D = some (.lst us) := g2.h D _ hDu
          refine ⟨wipe_ext l2 hs, upd c.B D (.lst us), F2, ρ2, T2, ?_⟩
          cases hG : G ρ2 with
          | exc e r => rw [hG] at hc; cases hc
          | bad => rw [hG] at hc; cases hc
          | ok b ρ3 =>
            rw [hG] at hc
            intro b' F3 H3 S3 f3 h3 eb
            have eb : b' = b := eb
            subst eb
            have l3 : ρ3.length = ρ'.length := by rw [← S3.len, l2, S'.len]
            cases b' with
            | false =>
              dsimp only at hc
              simp only [Bool.false_eq_true, if_false]
              exact ⟨F3, restE ρ' ρ3 vs, acc, us, es, h3 D _ hDu2, Reps.mono (g2.f.trans f3) _ _ ru, S'.rest S3 (g2.f.trans f3) l2 hs cl', (f'.trans g2.f).trans f3, (g'.trans g2.h).trans h3, clean_rest cl' l3, by rw [rest_length, l3, ln'], hc, rfl, by omega⟩
            | true =>
              dsimp only at hc
              simp only [if_true]
              refine ⟨upd c.B D (.lst us), F3, ρ3, S3, ?_⟩
              cases hE : E ρ3 with
              | exc e r => rw [hE] at hc; cases hc
              | bad => rw [hE] at hc; cases hc
              | ok z ρ4 =>
                rw [hE] at hc
                dsimp only at hc
                intro y F4 H4 S4 f4 h4 ry
                have ry : Rep c.K F4 z y := ry
                have hDu4 : H4 D = some (.lst us) := h4 D _ (h3 D _ hDu2)
                have l4 : ρ4.length = ρ'.length := by rw [← S4.len, l2, S'.len]
                have hFD4 : F4 D = none := S4.unheld hF0
                cases hR : compF T G E vs (ds.drop (i + 1)) (restE ρ' ρ4 vs) with
                | exc e r => rw [hR] at hc; cases hc
                | bad => rw [hR] at hc; cases hc
                | ok es2 r =>
                  rw [hR] at hc
                  dsimp only at hc
                  cases hc
                  refine ⟨us, hDu4, by rw [← ru.length]; omega, F4, restE ρ' ρ4 vs, acc ++ [z], us ++ [y], es2, upd_same, (Reps.mono ((g2.f.trans f3).trans f4) _ _ ru).append (Reps.cons ry Reps.nil), (S'.rest S4 ((g2.f.trans f3).trans f4) l2 hs cl').regard hFD4, ((f'.trans g2.f).trans f3).trans f4, fun a o e => ?_, clean_rest cl' l4, by rw [rest_length, l4, ln'], hR, by simp, by rw [List.length_append, List.length_singleton]; omega⟩
                  have na : a ≠ D := ne_of_none e hD
                  rw [upd_ne na]
                  exact h4 a o (h3 a o (g2.h a o (g' a o e)))
      · refine .inl ⟨r1.stop i H' g' hge, ?_⟩
        have e0 : ds.drop i = [] := List.drop_eq_nil_of_le hge
        rw [e0] at hc
        cases hc
        rw [List.append_nil] at a1
        refine a1 (.ref D) F' H' (S'.unguard hB0) f' g' ⟨⟨D, rfl, hFD, hB0, us, hDu, ru⟩, fun _ j d' e1 e2 => ?_⟩
        obtain ⟨v, h1, p, rfl, _, bp, _⟩ := S'.sl j _ e1
        rw [e2] at h1; cases h1
        rw [upd_same] at bp; cases bp
  · rw [if_neg hcl] at a1
    exact a1.elim
end PM
namespace PM
open PySem L2 PyProof.Rows
variable {pp : Pin}

/-! ### comprehensions as expressions -/
theorem _root_.L2.PTs.imp {X : Cx} {es : List Expr} {t t' : TT} (h : PTs X es t) (k : ∀ σ H Q, t' σ H Q → t σ H Q) : PTs X es t' := ⟨fun pins s σ H Q I hw => h.run pins s σ H Q I (k σ H Q hw)⟩
def yes : M Bool := fun ρ => .ok true ρ
section
variable {X : Cx} {c : Ct} {e : Expr}
theorem x_nil : PTs X [] (xT c yes) := pts_nil.imp fun σ H Q ⟨B, F, ρ, S, k⟩ => k true F H S (Sub.refl _) (Sub.refl _) rfl
theorem x_one {G : M Bool} (h : ∀ B, PT X e (tT (cB c B) G)) : PTs X [e] (xT c G) := ⟨fun pins s σ H Q I ⟨B, hw⟩ => (pts_one (h B)).run pins s σ H Q I hw⟩
theorem x_elt {E : M D} (h : ∀ B, PE X e (tF (cB c B) E)) : PE X e (xF c E) := ⟨fun pins s σ H Q I ⟨B, hw⟩ => (h B).run pins s σ H Q I hw⟩
theorem e_lc {elt tg iter : Expr} {ifs : List Expr} {scope : Scope} {own : List (Str × Nat)} {pos : Pos} {A : M (List D)} {g : TG} {T : Tg} {js : List Nat} {G : M Bool} {E : M D} (hc : X.calm = true) (hN : X.N.Nodup) (hi : PI X tg iter (tJ c A)) (ok : BlkOk X.N X.env.scope scope own)
    (hg : ∀ (s : Shared) (H : Hp) (C : Addr) (cl : List (Str × Addr)) (fp : List Addr), PG (X.blk s H scope (compEnvC scope cl C X.env) fp) tg g) (hT : TgOk c.K g T js) (hj : ∀ j ∈ js, j ∈ own.map (·.2))
    (ht : ∀ (s : Shared) (H : Hp) (C : Addr) (cl : List (Str × Addr)) (fp : List Addr), PTs (X.blk s H scope (compEnvC scope cl C X.env) fp) ifs (xT c G))
    (he : ∀ (s : Shared) (H : Hp) (C : Addr) (cl : List (Str × Addr)) (fp : List Addr), PE (X.blk s H scope (compEnvC scope cl C X.env) fp) elt (xF c E)) (hs : ∀ x, foldedSetIterable iter X.env x = pure x := by intro _; rfl)
    (fr : ∀ j ∈ own.map (·.2), Pin.free c.pp j := by exact fun _ _ => PM.Pin.free_no) : PE X (.ListComp elt [⟨tg, iter, ifs, 0⟩] scope pos) (tE c (lcE A T G E (own.map (·.2)))) :=
  (pe_lc hc hN hi ok hg ht he hs).imp fun _ _ _ h => lc_tr hT hj fr h
end

/-! ### statements -/
def skip : SM := fun ρ => .nx ρ
def seqS (S1 S2 : SM) : SM := fun ρ => match S1 ρ with
  | .nx ρ' => S2 ρ'
  | o => o
def brkS : SM := fun ρ => .bk ρ
def cntS : SM := fun ρ => .ct ρ
def asgS (i : Nat) (A : M Slot) : SM := A.thenS fun s ρ => .nx (ρ.set i (some s))
def tgS (A : M D) (T : Tg) : SM := A.thenS fun d ρ => match T d ρ with
  | some ρ' => .nx ρ'
  | none => .bad
def parS (i j : Nat) (R : M (List D)) : SM := R.thenS fun ds ρ => match ds with
  | [a, b] => .nx ((ρ.set i (some (false, a))).set j (some (false, b)))
  | _ => .bad
def setS (j : Nat) (A I : M D) : SM := A.thenS fun d ρ => if owned ρ j then (I.thenS fun i ρ2 => match ρ2[j]?, i with
  | some (some (true, .lst xs)), .int i => (match ixN xs.length i with
    | some k => .nx (ρ2.set j (some (true, .lst (xs.set k d))))
    | none => .bad)
  | _, _ => .bad) ρ else .bad
def appS (j : Nat) (A : M D) : SM := fun ρ => match ρ[j]? with
  | some (some (true, .lst _)) => (A.thenS fun d ρ2 => match ρ2[j]? with
    | some (some (true, .lst xs)) => if xs.length < sizeLine then .nx (ρ2.set j (some (true, .lst (xs ++ [d])))) else .bad
    | _ => .bad) ρ
  | _ => .bad
def augS (i : Nat) (f : D → D → Option Slot) (A : M D) : SM := fun ρ => match ρ[i]? with
  | some (some (_, d0)) => (A.thenS fun d ρ2 => match f d0 d with
    | some s => .nx (ρ2.set i (some s))
    | none => .bad) ρ
  | _ => .bad
def dropS (A : M Slot) : SM := A.thenS fun _ ρ => .nx ρ
def retS (A : M Slot) : SM := A.thenS fun s _ => .rt s
def retN : SM := fun _ => .rt (false, .non)
def retV (i : Nat) : SM := fun ρ => match ρ[i]? with
  | some (some s) => .rt s
  | _ => .bad
def ifS (G : M Bool) (S1 S2 : SM) : SM := G.thenS fun b => if b = true then S1 else S2
def whileF (G : M Bool) (S : SM) : Nat → SM
  | 0, _ => .bad
  | n + 1, ρ => match G ρ with
    | .ok true ρ1 => (match S ρ1 with
      | .nx ρ2 => whileF G S n ρ2
      | .ct ρ2 => whileF G S n ρ2
      | .bk ρ2 => .nx ρ2
      | .rt s => .rt s
      | .exc e ρ2 => .exc e ρ2
      | .bad => .bad)
    | .ok false ρ1 => .nx ρ1
    | .exc e ρ1 => .exc e ρ1
    | .bad => .bad
def forF (T : Tg) (S : SM) : List D → SM
  | [], ρ => .nx ρ
  | d :: ds, ρ => match T d ρ with
    | none => .bad
    | some ρ1 => match S ρ1 with
      | .nx ρ2 => forF T S ds ρ2
      | .ct ρ2 => forF T S ds ρ2
      | .bk ρ2 => .nx ρ2
      | .rt s => .rt s
      | .exc e ρ2 => .exc e ρ2
      | .bad => .bad
def forS (A : M (List D)) (T : Tg) (S : SM) : SM := A.thenS fun ds => forF T S ds

section
variable {X : Cx} {c : Ct} {e : Expr} {es : List Expr} {s : Stmt} {ss : List Stmt} {pos pos' : Pos} {S1 S2 : SM}
theorem ss_nil : PSs X [] (tS c skip) := pss_nil.imp fun D σ H ⟨F, ρ, S, k⟩ => k σ F H S
theorem ss_cons (h1 : PS X s (tS c S1)) (h2 : PSs X ss (tS c S2)) : PSs X (s :: ss) (tS c (seqS S1 S2)) := by
  refine (pss_cons h1 h2).imp fun D σ H ⟨F, ρ, S, k⟩ => ⟨F, ρ, S, ?_⟩
  unfold seqS at k
  cases q : S1 ρ with
  | nx ρ' => rw [q] at k; exact fun σ' F' H' S' => ⟨F', ρ', S', k⟩
  | bk ρ' => rw [q] at k; exact k
  | ct ρ' => rw [q] at k; exact k
  | rt s => rw [q] at k; exact k
  | exc e ρ' => rw [q] at k; exact k
  | bad => rw [q] at k; exact k
theorem ss_one (h1 : PS X s (tS c S1)) : PSs X [s] (tS c S1) := pss_one h1
theorem s_pass : PS X (.Pass pos) (tS c skip) := ps_pass.imp fun D σ H ⟨F, ρ, S, k⟩ => k σ F H S
theorem s_brk : PS X (.Break pos) (tS c brkS) := ps_break.imp fun D σ H ⟨F, ρ, S, k⟩ => k σ F H S
theorem s_cnt : PS X (.Continue pos) (tS c cntS) := ps_continue.imp fun D σ H ⟨F, ρ, S, k⟩ => k σ F H S
theorem asg_tr {A : M Slot} {i : Nat} {D : Ends} {σ : L2.St} {H : Hp} (fr : Pin.free c.pp i) (h : tS c (asgS i A) D σ H) : tAsg (tE c A) (gName i) D σ H := by
  obtain ⟨F, ρ, S, k⟩ := h
  exact ⟨F, ρ, S, k.step fun s ρ1 x F1 H1 S1 r1 f1 h1 a1 => a1 _ F1 H1 (S1.set i r1.1 r1.2 fr)⟩
theorem s_set {i : Nat} {x : Str} {A : M Slot} (hN : X.N.Nodup) (hi : X.N[i]? = some x) (hx : Loc X.env.scope x) (he : PE X e (tE c A)) (hs : swapsWith e (some (.Name x pos')) pos.line X.env = pure false := by rfl) (hf : X.fn x = true ∨ X.env.scope.names.lookup x = some .local := by first | exact .inl rfl | exact .inr rfl | assumption) (fr : Pin.free c.pp i := by exact PM.Pin.free_no) :
    PS X (.Assign [.Name x pos'] e pos) (tS c (asgS i A)) := (ps_set hN hi hx he hs hf).imp fun _ _ _ h => asg_tr fr h
theorem s_setLc {i : Nat} {y : Str} {py : Pos} {elt tg iter : Expr} {ifs : List Expr} {scope : Scope} {own : List (Str × Nat)} {spos : Pos} {A : M (List D)} {g : TG} {T : Tg} {js : List Nat} {G : M Bool} {E : M D} (hc : X.calm = true) (hN : X.N.Nodup) (hy : X.N[i]? = some y) (hyl : X.env.scope.names.lookup y = some .local)
    (hsw : swapsWith (.ListComp elt [⟨tg, iter, ifs, 0⟩] scope pos) (some (.Name y py)) spos.line X.env = pure true) (hi : PI X tg iter (tJ c A)) (ok : BlkOk X.N X.env.scope scope own)
    (hg : ∀ (s : Shared) (H : Hp) (C : Addr) (cl : List (Str × Addr)) (fp : List Addr), PG (X.blk s H scope (compEnvC scope cl C X.env) fp) tg g) (hT : TgOk c.K g T js) (hj : ∀ j ∈ js, j ∈ own.map (·.2))
    (ht : ∀ (s : Shared) (H : Hp) (C : Addr) (cl : List (Str × Addr)) (fp : List Addr), PTs (X.blk s H scope (compEnvC scope cl C X.env) fp) ifs (xT c G))
    (he : ∀ (s : Shared) (H : Hp) (C : Addr) (cl : List (Str × Addr)) (fp : List Addr), PE (X.blk s H scope (compEnvC scope cl C X.env) fp) elt (xF c E)) (hs : ∀ x, foldedSetIterable iter X.env x = pure x := by intro _; rfl) (fr : ∀ j ∈ own.map (·.2), Pin.free c.pp j := by exact fun _ _ => PM.Pin.free_no) (fr2 : Pin.free c.pp i := by exact PM.Pin.free_no) :
    PS X (.Assign [.Name y py] (.ListComp elt [⟨tg, iter, ifs, 0⟩] scope pos) spos) (tS c (asgS i (lcE A T G E (own.map (·.2))))) := by
  refine (ps_setLc hc hN hy hyl hsw hi ok hg ht he hs).imp fun D σ H h => ?_
  have h2 := asg_tr fr2 h
  exact lc_tr hT hj fr h2
theorem s_tg {tg : Expr} {A : M D} {g : TG} {T : Tg} {js : List Nat} (he : PE X e (tF c A)) (hg : PG X tg g) (hT : TgOk c.K g T js) (hs : swapsWithSole [tg] e pos.line X.env = pure false := by rfl) (hw : swappedStores [tg] e X.env = pure none := by rfl)
    (h1 : (assignEach [tg] X.env).map (·.2) = [assign tg X.env] := by rfl) (fr : ∀ j ∈ js, Pin.free c.pp j := by exact fun _ _ => PM.Pin.free_no) : PS X (.Assign [tg] e pos) (tS c (tgS A T)) := by
  refine (ps_asg he hg hs hw h1).imp fun D σ H ⟨F, ρ, S, k⟩ => ⟨F, ρ, S, k.step fun d ρ1 x F1 H1 S1 r1 f1 h1 a1 => ?_⟩
  cases q : T d ρ1 with
  | none => rw [q] at a1; exact a1.elim
  | some ρ2 =>
    rw [q] at a1
    exact hT.run _ _ _ _ _ _ _ d x ρ2 _ fr S1 r1 q fun σ2 T2 _ _ => a1 σ2 F1 H1 T2
theorem s_par {i j : Nat} {x y : Str} {a b : Expr} {R : M (List D)} {px py pt : Pos} {kt k2 pt2} (hc : X.calm = true) (hN : X.N.Nodup) (hi : X.N[i]? = some x) (hj : X.N[j]? = some y) (hij : i ≠ j)
    (hx : X.env.scope.names.lookup x = some .local) (hy : X.env.scope.names.lookup y = some .local) (ha : PA X [a, b] (tFs c R))
    (hw : swappedStores [.Tuple [.Name x px, .Name y py] kt pt] (.Tuple [a, b] k2 pt2) X.env = pure (some [x, y]))
    (hs : swapsWithSole [.Tuple [.Name x px, .Name y py] kt pt] (.Tuple [a, b] k2 pt2) pos.line X.env = pure false := by rfl) (fr : Pin.free c.pp i := by exact PM.Pin.free_no) (fr2 : Pin.free c.pp j := by exact PM.Pin.free_no) :
    PS X (.Assign [.Tuple [.Name x px, .Name y py] kt pt] (.Tuple [a, b] k2 pt2) pos) (tS c (parS i j R)) := by
  refine (ps_par hc hN hi hj hij hx hy ha hw hs).imp fun D σ H ⟨F, ρ, S, k⟩ => ⟨F, ρ, S, k.step fun ds ρ1 xs F1 H1 S1 r1 f1 h1 a1 => ?_⟩
  cases ds with
  | nil => exact a1.elim
  | cons d1 ds =>
    cases ds with
    | nil => exact a1.elim
    | cons d2 ds =>
      cases ds with
      | cons _ _ => exact a1.elim
      | nil =>
        obtain ⟨v, r, rfl, k1, k2⟩ := Reps.inv r1
        obtain ⟨w, r', rfl, k3, k4⟩ := k2.inv
        have k4 := k4.inv0
        subst k4
        exact ⟨v, w, rfl, a1 _ F1 H1 ((S1.setF i k1 fr).setF j k3 fr2)⟩
theorem owned_get {ρ : Env} {j : Nat} (h : owned ρ j = true) : ∃ d, ρ[j]? = some (some (true, d)) := by
  unfold owned at h
  split at h
  · rename_i d e; exact ⟨d, e⟩
  · cases h
theorem s_setL {j : Nat} {x : Str} {i : Expr} {A I : M D} {px ps : Pos} (he : PE X e (tF c A)) (hx : PE X (.Name x px) (tVar j)) (hi : PE X i (tP c I))
    (ha : ∀ v, assign (.Subscript (.Name x px) i ps) X.env v = (do
      let ov ← holding [v] (eval (.Name x px) X.env)
      let iv ← holding [v, ov] (eval i X.env)
      standAt ps
      holding [v, ov, iv] (setItem ov iv v)
      release [v, ov, iv] []) := by intro _; rfl) (hs : swapsWithSole [.Subscript (.Name x px) i ps] e pos.line X.env = pure false := by rfl) (hw : swappedStores [.Subscript (.Name x px) i ps] e X.env = pure none := by rfl)
    (h1 : (assignEach [.Subscript (.Name x px) i ps] X.env).map (·.2) = [assign (.Subscript (.Name x px) i ps) X.env] := by rfl) :
    PS X (.Assign [.Subscript (.Name x px) i ps] e pos) (tS c (setS j A I)) := by
  refine (ps_asg he (pg_sub hx hi set_list ha) hs hw h1).imp fun D σ H ⟨F, ρ, S, k⟩ => ⟨F, ρ, S, k.step fun d ρ1 v F1 H1 S1 r1 f1 h1 a1 => ?_⟩
  by_cases ho : owned ρ1 j = true
  · rw [if_pos ho] at a1
    obtain ⟨d0, e0⟩ := owned_get ho
    obtain ⟨u, e1, p, rfl, _, _, k0⟩ := S1.sl j _ e0
    refine ⟨.ref p, e1, F1, ρ1, S1, a1.step fun i' ρ2 iv F2 H2 S2 r2 f2 h2 a2 => ?_⟩
    split at a2
    · rename_i xs i e2
      split at a2
      · rename_i k hk
        obtain ⟨u', e3, p', ep, _, _, k2⟩ := S2.sl j _ e2
        rw [e1] at e3; cases e3; cases ep
        obtain ⟨us, hu, ru⟩ := k2
        have r2 : iv = .int i := r2
        refine ⟨p, us, i, k, rfl, r2, hu, by rw [← ru.length]; exact hk, ?_⟩
        exact a2 σ F2 _ (S2.upd e2 e1 ⟨_, upd_same, ru.set k (Rep.mono f2 _ _ r1)⟩)
      · exact a2.elim
    · exact a2.elim
  · rw [if_neg ho] at a1
    exact a1.elim
theorem s_app {j : Nat} {x : Str} {A : M D} {px apos cpos : Pos} (hK : c.K = X.K) (hx : PE X (.Name x px) (tVar j)) (he : PE X e (tF c A))
    (hsw : swapsWith (.Call (.Attribute (.Name x px) "append" apos) [e] [] cpos) none pos.line X.env = pure false := by rfl)
    (hbase : attributeBase (.Name x px) "append" X.env (eval (.Name x px) X.env) = eval (.Name x px) X.env := by rfl)
    (hfew : ((backTo cpos (starEach [e] X.env)).all (fun x => !x.1) && (backToKw cpos (keywordEach [] X.env)).all (fun x => x.1.isSome)
      && decide ([e].length + ([] : List Keyword).length + (if ([] : List Keyword).isEmpty then 0 else 1) < 30)) = true := by rfl)
    (hline : (apos.endLine == cpos.line) = true := by rfl) (hs : starEach [e] X.env = (false, eval e X.env) :: starEach [] X.env := by rfl) (hplain : (backTo cpos (starEach [] X.env)).any (·.1) = false := by rfl) :
    PS X (.Expr (.Call (.Attribute (.Name x px) "append" apos) [e] [] cpos) pos) (tS c (appS j A)) := by
  refine (ps_expr (pe_bm PySem.F.plainAttrs_list PySem.F.slot_list_append PySem.F.type_list_append mt_append hx (pa_cons he pa_nil hs) hbase hfew hline hs hplain) hsw).imp fun D σ H ⟨F, ρ, S, k⟩ => ?_
  unfold appS at k
  split at k
  · rename_i ys e0
    obtain ⟨u, e1, p, rfl, _, _, us, hu, ru⟩ := S.sl j _ e0
    refine ⟨.ref p, e1, .inl ⟨rfl, us, .inl (.inl hu)⟩, F, ρ, S, k.step fun d ρ2 v F2 H2 S2 r2 f2 h2 a2 => ?_⟩
    split at a2
    · rename_i xs e2
      split at a2
      · rename_i hz
        obtain ⟨u', e3, p', ep, _, _, us2, hu2, ru2⟩ := S2.sl j _ e2
        rw [e1] at e3; cases e3; cases ep
        refine ⟨p, us2, v, rfl, rfl, hu2, by rw [← ru2.length]; exact hz, ?_⟩
        exact a2 σ F2 _ (S2.upd e2 e1 ⟨_, upd_same, ru2.append (Reps.cons r2 Reps.nil)⟩)
      · exact a2.elim
    · exact a2.elim
  · exact k.elim
/-- x op= e -/
def IpOk (X : Cx) (op : Operator) (r : R2) : Prop := PIp X op r
theorem s_aug {i : Nat} {x : Str} {A : M D} {op : Operator} {f : D → D → Option Slot} {r : R2} (hN : X.N.Nodup) (hi : X.N[i]? = some x) (hx : Loc X.env.scope x) (he : PE X e (tP c A)) (ho : OpR X (inplaceOp op) r) (ok : OpOk c.K f r) (hf : X.fn x = true ∨ X.env.scope.names.lookup x = some .local := by first | exact .inl rfl | exact .inr rfl | assumption) (fr : Pin.free c.pp i := by exact PM.Pin.free_no) :
    PS X (.AugAssign (.Name x pos') op e pos) (tS c (augS i f A)) := by
  refine (ps_aug (ti := r) hN hi hx he (fun pins s σ H x y v u Q I rx ry h => ho pins s σ H x y v u Q I rx ry h) hf).imp fun D σ H ⟨F, ρ, S, k⟩ => ?_
  unfold augS at k
  split at k
  · rename_i o d0 e0
    obtain ⟨v, h1, h2⟩ := S.sl i _ e0
    refine ⟨v, h1, F, ρ, S, k.step fun d ρ2 y F2 H2 S2 r2 f2 g2 a2 => ?_⟩
    cases q : f d0 d with
    | none => rw [q] at a2; exact a2.elim
    | some s =>
      rw [q] at a2
      refine ok F2 H2 d0 d v y s _ S2.fh ((SlR.pk S.fh h2).mono f2 g2) r2 q fun z F3 H3 g3 n3 => ?_
      have w := n3.vr (c := c) S2
      exact a2 _ F3 H3 ((S2.grow g3).set i w.1 w.2 fr)
  · exact k.elim
theorem s_drop {A : M Slot} (he : PE X e (tE c A)) (hs : swapsWith e none pos.line X.env = pure false := by rfl) : PS X (.Expr e pos) (tS c (dropS A)) :=
  (ps_expr he hs).imp fun D σ H ⟨F, ρ, S, k⟩ => ⟨F, ρ, S, k.step fun s ρ1 x F1 H1 S1 r1 f1 h1 a1 => a1 σ F1 H1 S1⟩
theorem s_doc {x j} : PS X (.Expr (.Constant (.str x) j pos) pos') (tS c skip) := ps_doc.imp fun D σ H ⟨F, ρ, S, k⟩ => k σ F H S
theorem s_ret {A : M Slot} (he : PE X e (tE c A)) : PS X (.Return (some e) pos) (tS c (retS A)) :=
  (ps_ret he).imp fun D σ H ⟨F, ρ, S, k⟩ => ⟨F, ρ, S, k.step fun s ρ1 x F1 H1 S1 r1 f1 h1 a1 => a1 x σ ρ1 F1 H1 S1 r1.1⟩
theorem s_retN : PS X (.Return none pos) (tS c retN) := ps_retN.imp fun D σ H ⟨F, ρ, S, k⟩ => k .non σ ρ F H S rfl
theorem s_retV {i : Nat} {x : Str} (h : PE X (.Name x pos') (tVar i)) : PS X (.Return (some (.Name x pos')) pos) (tS c (retV i)) := by
  refine (ps_ret h).imp fun D σ H ⟨F, ρ, S, k⟩ => ?_
  unfold retV at k
  split at k
  · rename_i s e
    obtain ⟨v, h1, h2⟩ := S.sl i _ e
    exact ⟨v, h1, k v σ ρ F H S h2⟩
  · exact k.elim
theorem s_if {t : Expr} {a b : List Stmt} {G : M Bool} (ht : PT X t (tT c G)) (ha : PSs X a (tS c S1)) (hb : PSs X b (tS c S2)) : PS X (.If t a b pos) (tS c (ifS G S1 S2)) := by
  refine (ps_if ht ha hb).imp fun D σ H ⟨F, ρ, S, k⟩ => ⟨F, ρ, S, k.step fun d ρ1 x F1 H1 S1' r1 f1 h1 a1 => ?_⟩
  have r1 : x = d := r1
  subst r1
  cases x with
  | true => exact ⟨F1, ρ1, S1', a1⟩
  | false => exact ⟨F1, ρ1, S1', a1⟩
theorem s_while {t : Expr} {body : List Stmt} {G : M Bool} (n : Nat) (hp : PassesOwn (model X.prog X.w) X.A X.env X.xe) (ht : PT X t (tT c G)) (hb : PSs X body (tS c S1)) : PS X (.While t body [] pos) (tS c (whileF G S1 n)) := by
  refine (ps_while hp ht hb).imp fun D σ H h => ⟨fun m σ H => tS c (whileF G S1 m) D σ H, ⟨n, h⟩, fun m σ H ⟨F, ρ, S, k⟩ => ?_⟩
  cases m with
  | zero => exact k.elim
  | succ m =>
    unfold whileF at k
    refine ⟨F, ρ, S, ?_⟩
    cases q : G ρ with
    | bad => rw [q] at k; exact k.elim
    | exc x ρ1 =>
      rw [q] at k
      exact fun F' H' cls d S' x => k σ F' H' cls d S' x
    | ok b ρ1 =>
      rw [q] at k
      intro b' F1 H1 S1' f1 h1 eb
      have eb : b' = b := eb
      subst eb
      cases b' with
      | false =>
        rw [if_neg Bool.false_ne_true]
        exact k σ F1 H1 S1'
      | true =>
        rw [if_pos rfl]
        dsimp only at k
        refine ⟨fun σ' H' => tS c (whileF G S1 m) D σ' H', fun σ' H' n => ⟨m, Nat.lt_succ_self m, n⟩, F1, ρ1, S1', ?_⟩
        cases q2 : S1 ρ1 with
        | nx ρ2 => rw [q2] at k; exact fun σ2 F2 H2 S2 => ⟨F2, ρ2, S2, k⟩
        | ct ρ2 => rw [q2] at k; exact fun σ2 F2 H2 S2 => ⟨F2, ρ2, S2, k⟩
        | bk ρ2 => rw [q2] at k; exact k
        | rt s => rw [q2] at k; exact k
        | exc x ρ2 => rw [q2] at k; exact k
        | bad => rw [q2] at k; exact k
/-- the data of an elder state are kept: F0 is raised -/
theorem SR.raise {K : Fr} {B F0 F H F1 : Hp} {σ : L2.St} {ρ : Env} (S : SR pp K B F0 F H σ ρ) (f0 : Sub F0 F1) (f : Sub F1 F) : SR pp K B F1 F H σ ρ := ⟨S.bh, S.fh, f, fun a o e => by
  rcases S.new a o e with z | z
  · exact .inl (f0 a o z)
  · exact .inr z, S.len, S.sl, S.sep, S.pk⟩
theorem SR.lower {K : Fr} {B F0 F H F1 : Hp} {σ : L2.St} {ρ : Env} (S : SR pp K B F1 F H σ ρ) (f0 : Sub F0 F1) (n : ∀ a o, F1 a = some o → F0 a = some o ∨ B a = none) : SR pp K B F0 F H σ ρ := ⟨S.bh, S.fh, f0.trans S.f0, fun a o e => by
  rcases S.new a o e with z | z
  · exact n a o z
  · exact .inr z, S.len, S.sl, S.sep, S.pk⟩
abbrev cF (c : Ct) (F0 : Hp) : Ct := { c with F0 := F0 }
theorem s_for {tg iter : Expr} {body : List Stmt} {A : M (List D)} {g : TG} {T : Tg} {js : List Nat} (hp : PassesOwn (model X.prog X.w) X.A X.env X.xe) (hc : X.calm = true) (hi : PI X tg iter (tK c A)) (hg : PG X tg g) (hT : TgOk c.K g T js) (hb : ∀ F0, PSs X body (tS (cF c F0) S1))
    (hs : ∀ x, foldedSetIterable iter X.env x = pure x := by intro _; rfl) (fr : ∀ j ∈ js, Pin.free c.pp j := by exact fun _ _ => PM.Pin.free_no) : PS X (.For tg iter body [] pos) (tS c (forS A T S1)) := by
  have hb' : PSs X body (fun D σ H => ∃ F0, tS (cF c F0) S1 D σ H) := ⟨fun pins s σ H D I ⟨F0, hw⟩ => (hb F0).run pins s σ H D I hw⟩
  refine (ps_for hp hc hi hg hb' hs).imp fun D σ H ⟨F, ρ, S, k⟩ => ⟨F, ρ, S, k.step fun ds ρ1 J F1 H1 S1' r1 f1 h1 a1 => ?_⟩
  have r1 : JOk c.K F1 F1 J ds := r1
  refine ⟨fun i m σ' H' => m = ds.length - i ∧ i ≤ ds.length ∧ ∃ F' ρ', Sub F1 F' ∧ SRc c F' H' σ' ρ' ∧ SAft c (forF T S1 (ds.drop i) ρ') D, ⟨ds.length, rfl, Nat.zero_le _, F1, ρ1, Sub.refl _, S1', a1⟩, ?_⟩
  rintro i m σ' H' ⟨rfl, hi, F', ρ', f', S', k'⟩
  rcases Nat.lt_or_ge i ds.length with hlt | hge
  · refine .inr ⟨r1.go i H' (f'.trans S'.fh) hlt, fun σ2 H2 => ∃ F2 ρ2, Sub F1 F2 ∧ SRc c F2 H2 σ2 ρ2 ∧ SAft c (forF T S1 (ds.drop (i + 1)) ρ2) D, fun σ2 H2 hx => ⟨ds.length - (i + 1), by omega, rfl, by omega, hx⟩, fun x H2 y => ?_⟩
    obtain ⟨F2, d, g2, hd, rd⟩ := r1.yld i F' H' x H2 (f'.trans S'.fh) f' S'.fh hlt y
    have S2 := S'.grow g2
    have edrop : ds.drop i = d :: ds.drop (i + 1) := by
      rw [List.drop_eq_getElem_cons hlt]
      have : ds[i] = d := by
        rw [List.getElem?_eq_getElem hlt] at hd
        exact Option.some.inj hd
      rw [this]
    rw [edrop] at k'
    unfold forF at k'
    cases hTd : T d ρ' with
    | none => rw [hTd] at k'; exact k'.elim
    | some ρ2 =>
      rw [hTd] at k'
      dsimp only at k'
      refine hT.run _ _ _ _ _ _ _ d x ρ2 _ fr S2 rd hTd fun σ3 T3 _ _ => ?_
      have f3 : Sub F1 F2 := f'.trans g2.f
      refine ⟨F1, F2, ρ2, T3.raise S1'.f0 f3, ?_⟩
      have low : ∀ {σ4 : L2.St} {F4 H4 : Hp} {ρ4 : Env}, SRc (cF c F1) F4 H4 σ4 ρ4 → SRc c F4 H4 σ4 ρ4 := fun {σ4 F4 H4 ρ4} S4 => SR.lower (F1 := F1) S4 S1'.f0 S1'.new
      cases q2 : S1 ρ2 with
      | nx ρ3 => rw [q2] at k'; exact fun σ4 F4 H4 S4 => ⟨F4, ρ3, S4.f0, low S4, k'⟩
      | ct ρ3 => rw [q2] at k'; exact fun σ4 F4 H4 S4 => ⟨F4, ρ3, S4.f0, low S4, k'⟩
      | bk ρ3 => rw [q2] at k'; exact fun σ4 F4 H4 S4 => k' σ4 F4 H4 (low S4)
      | rt s => rw [q2] at k'; exact fun v σ4 ρ4 F4 H4 S4 r4 => k' v σ4 ρ4 F4 H4 (low S4) r4
      | exc x ρ3 => rw [q2] at k'; exact fun σ4 F4 H4 cls d S4 x4 => k' σ4 F4 H4 cls d (low S4) x4
      | bad => rw [q2] at k'; exact k'
  · refine .inl ⟨r1.stop i H' (f'.trans S'.fh) hge, ?_⟩
    have e0 : ds.drop i = [] := List.drop_eq_nil_of_le hge
    rw [e0] at k'
    exact k' σ' F' H' S'
end

/-! ### a def -/
def initE (N : Nat) (ds : List D) : Env := ds.map (fun d => some (false, d)) ++ List.replicate (N - ds.length) none
def runF (N n : Nat) (S : SM) : FM := fun ds => if ds.length = n then (match S (initE N ds) with
  | .nx _ => .ok (false, .non)
  | .rt s => .ok s
  | .exc e _ => .exc e
  | _ => .bad) else .bad
theorem runF_len {N n : Nat} {S : SM} (ds : List D) (h : runF N n S ds ≠ .bad) : ds.length = n := by
  unfold runF at h
  by_cases e : ds.length = n
  · exact e
  · rw [if_neg e] at h; exact absurd rfl h
theorem start_ok {K : Fr} {F H : Hp} {N : List Str} {ds : List D} {vs : List V} (fh : Sub F H) (r : Reps K F ds vs) (hl : vs.length ≤ N.length) : SR none K H F F H (L2.start N vs) (initE N.length ds) where
  pk := Pin.ok_no
  bh := Sub.refl _
  fh := fh
  f0 := Sub.refl _
  new := fun a o e => .inl e
  len := by
    unfold L2.start initE
    rw [List.length_append, List.length_append, List.length_map, List.length_map, List.length_replicate, List.length_replicate, r.length]
  sl := fun i s e => by
    unfold initE at e
    unfold L2.start
    by_cases hi : i < ds.length
    · rw [List.getElem?_append_left (by simpa using hi), List.getElem?_map, List.getElem?_eq_getElem hi] at e
      have e : (false, ds[i]) = s := by simpa using e
      subst e
      obtain ⟨v, h1, h2⟩ := r.get (List.getElem?_eq_getElem hi)
      refine ⟨v, ?_, h2⟩
      rw [List.getElem?_append_left (by rw [List.length_map, ← r.length]; exact hi), List.getElem?_map, h1]
      rfl
    · rw [List.getElem?_append_right (by simpa using hi), List.getElem?_replicate] at e
      split at e <;> cases e
  sep := fun i j p di dj e _ _ _ => by
    unfold initE at e
    by_cases hi : i < ds.length
    · rw [List.getElem?_append_left (by simpa using hi), List.getElem?_map, List.getElem?_eq_getElem hi] at e
      cases e
    · rw [List.getElem?_append_right (by simpa using hi), List.getElem?_replicate] at e
      split at e <;> cases e
section
variable {P : Program} {w : World} {K : Fr} {mg : Str → Option Value} {base : Heap}
/-- a def keeps its promise -/
theorem ok_fun {x qual : Str} {s : Stmt} {f : Addr} {fd : FuncData} {N ps : List Str} {k : Nat} {S : SM} (F : Fun K x qual s f fd) (Sc : FnScope N ps (defScope s)) (hl : ps.length ≤ N.length)
    (hbody : ∀ (cdv : Value) (A : Around) (outer : List PySem.Env) (s0 : Shared) (H : Hp) (E : XK), Room k (A.deeper (envOfC qual (defScope s) s0.heap.objs.size f cdv)) → ∀ B F0,
      PSs (cxOf (CX P w) P w K mg base N qual (defScope s) f cdv A outer s0 H E) (defBody s) (tS ⟨K, mg, B, F0, fun cls d _ H => E cls d H, none⟩ S)) :
    FnOk P w K mg base (CX P w) (k + 1) f fd ps (spF K mg (runF N.length ps.length S) ps.length) := by
  refine F.okX Sc (fun vs H Q E h => h.1) (fun cdv A outer s0 H vs Q E hr h => ?_)
  obtain ⟨hvl, F0, ds, fh, r, h⟩ := h
  refine ⟨_, hbody cdv A outer s0 H E hr H F0, F0, _, start_ok fh r (by rw [hvl]; exact hl), ?_⟩
  have hdl : ds.length = ps.length := by rw [r.length, hvl]
  unfold runF at h
  rw [if_pos hdl] at h
  have gr : ∀ {F' H' : Hp} {σ' : L2.St} {ρ' : Env}, SR none K H F0 F' H' σ' ρ' → Grow F0 H F' H' := fun {F' H' σ' ρ'} S' => ⟨S'.f0, S'.bh, S'.fh, S'.new⟩
  cases q : S (initE N.length ds) with
  | nx ρ' => rw [q] at h; exact fun σ' F' H' S' => h .non F' H' (gr S') rfl
  | rt s =>
    rw [q] at h
    intro v σ' ρ' F' H' S' r'
    refine h v F' H' (gr S') ?_
    obtain ⟨o, d⟩ := s
    cases o with
    | false => exact r'
    | true =>
      obtain ⟨a, rfl, fa, ba, k⟩ := r'
      exact ⟨a, rfl, ba, fa, k⟩
  | exc x ρ' => rw [q] at h; exact fun σ' F' H' cls d S' x' => h F' H' cls d (gr S') x'
  | bk ρ' => rw [q] at h; exact h.elim
  | ct ρ' => rw [q] at h; exact h.elim
  | bad => rw [q] at h; exact h.elim
end
end PM
namespace PM
open PySem L2 PyProof.Rows

/-! ### methods of texts -/
section
variable {X : Cx} {c : Ct} {e o : Expr} {es : List Expr} {apos cpos : Pos} {id : String} {name : Str} {r : V → List V → Hp → VK → Prop}
def smE (f : List Nat → List D → Option Slot) (A : M D) (R : M (List D)) : M Slot := A.bind fun d => match d with
  | .str a => R.bind fun ds => M.lift (f a ds)
  | _ => fun _ => .bad
def SmOk (K : Fr) (f : List Nat → List D → Option Slot) (r : V → List V → Hp → VK → Prop) : Prop := ∀ (F H : Hp) (a : List Nat) (ds : List D) (xs : List V) (s : Slot) (Q : VK), Sub F H → PkRs K F H ds xs → f a ds = some s →
  (∀ v F' H', Grow F H F' H' → VN K H F' H' s v → Q v H') → r (.str (st a)) xs H Q
theorem e_sm {f : List Nat → List D → Option Slot} {A : M D} {R : M (List D)} (slot : PySem.Slot "str" name id) (hty : typeOf (.builtin id) = pure (.type "method_descriptor")) (hm : MtR X id r) (ok : SmOk c.K f r) (ho : PE X o (tP c A)) (ha : PA X (e :: es) (tPs c R))
    (hbase : attributeBase o name X.env (eval o X.env) = eval o X.env := by rfl)
    (hfew : ((backTo cpos (starEach (e :: es) X.env)).all (fun x => !x.1) && (backToKw cpos (keywordEach [] X.env)).all (fun x => x.1.isSome)
      && decide ((e :: es).length + ([] : List Keyword).length + (if ([] : List Keyword).isEmpty then 0 else 1) < 30)) = true := by rfl)
    (hline : (apos.endLine == cpos.line) = true := by rfl) (hs : starEach (e :: es) X.env = (false, eval e X.env) :: starEach es X.env := by rfl) (hplain : (backTo cpos (starEach es X.env)).any (·.1) = false := by rfl) :
    PE X (.Call (.Attribute o name apos) (e :: es) [] cpos) (tE c (smE f A R)) := by
  refine (pe_bm F.plainAttrs_str slot hty hm ho ha hbase hfew hline hs hplain).imp fun σ H Q ⟨F, ρ, S, k⟩ => ⟨F, ρ, S, k.step fun d ρ1 x F1 H1 S1 r1 f1 h1 a1 => ?_⟩
  split at a1
  · rename_i a
    have r1 : x = .str (st a) := r1
    subst r1
    refine ⟨rfl, F1, ρ1, S1, a1.step fun ds ρ2 xs F2 H2 S2 r2 f2 h2 a2 => ?_⟩
    obtain ⟨s, e, k⟩ := a2.lift S2
    exact ok F2 H2 a ds xs s Q S2.fh r2 e k
  · exact a1.elim
end
def joinL (a : List Nat) : List (List Nat) → List Nat
  | [] => []
  | y :: ys => y ++ (ys.map fun z => a ++ z).flatten
def strsD : List D → Option (List (List Nat))
  | [] => some []
  | .str s :: r => (strsD r).map fun q => s :: q
  | _ => none
def joinD : List Nat → List D → Option Slot
  | a, [.lst xs] => (strsD xs).bind fun ys => if (ys.map (·.length)).sum + ys.length * a.length ≤ 16777216 then some (false, .str (joinL a ys)) else none
  | a, [.tup xs] => (strsD xs).bind fun ys => if (ys.map (·.length)).sum + ys.length * a.length ≤ 16777216 then some (false, .str (joinL a ys)) else none
  | _, _ => none
section
variable {K : Fr} {F H : Hp}
theorem strsD_reps : ∀ {xs : List D} {vs : List V} {ys : List (List Nat)}, Reps K F xs vs → strsD xs = some ys → vs = (ys.map st).map V.str
  | [], vs, ys, r, e => by cases e; exact r.inv0
  | d :: xs, vs, ys, r, e => by
    cases d with
    | str s =>
      obtain ⟨v, w, rfl, r1, r2⟩ := r.inv
      unfold strsD at e
      cases q : strsD xs with
      | none => rw [q] at e; cases e
      | some zs =>
        rw [q] at e
        cases e
        have r1 : v = .str (st s) := r1
        rw [r1, strsD_reps r2 q]
        rfl
    | _ => cases e
theorem glue_fold (a : List Nat) : ∀ (ys : List (List Nat)) (acc : List Nat), ((ys.map st).foldl (fun acc p => acc ++ (st a).cps ++ p.cps) acc.toArray) = (acc ++ (ys.map fun z => a ++ z).flatten).toArray
  | [], acc => by simp
  | y :: ys, acc => by
    rw [List.map_cons, List.foldl_cons, show acc.toArray ++ (st a).cps ++ (st y).cps = (acc ++ a ++ y).toArray by simp [st], glue_fold a ys]
    simp
theorem join_st (a : List Nat) : ∀ ys : List (List Nat), Txt.join (st a) (ys.map st) = st (joinL a ys)
  | [] => rfl
  | y :: ys => by
    show Str.mk _ = Str.mk _
    have := glue_fold a ys y
    simp only [List.map_cons, List.drop_succ_cons, List.drop_zero, List.headD_cons]
    have t2 : List.foldl (fun acc p => acc ++ a.toArray ++ p.cps) y.toArray (List.map st ys) = (y ++ (List.map (fun z => a ++ z) ys).flatten).toArray := this
    rw [t2]
    rfl
def rJoin (K : Fr) : V → List V → Hp → VK → Prop := fun x xs H Q => ∃ a p, ∃ ys : List Str, x = .str a ∧ xs = [.ref p] ∧ (SqL K H p (ys.map V.str) ∨ SqT K H p (ys.map V.str)) ∧
    (ys.map (·.length)).sum + ys.length * a.length ≤ 16777216 ∧ Q (.str (Txt.join a ys)) H
theorem sum_st : ∀ ys : List (List Nat), ((ys.map st).map (·.length)).sum = (ys.map (·.length)).sum
  | [] => rfl
  | y :: ys => by
    rw [List.map_cons, List.map_cons, List.sum_cons, sum_st ys, List.map_cons, List.sum_cons]
    simp [st, Str.length]
theorem ok_join : SmOk K joinD (rJoin K) := by
  intro F H a ds xs s Q fh r e k
  have fin : ∀ ys : List (List Nat), (ys.map (·.length)).sum + ys.length * a.length ≤ 16777216 → ((ys.map st).map (·.length)).sum + (ys.map st).length * (st a).length ≤ 16777216 := fun ys h => by
    rw [sum_st, List.length_map]
    simpa [st, Str.length] using h
  unfold joinD at e
  split at e
  · rename_i xs
    cases q : strsD xs with
    | none => rw [q] at e; cases e
    | some ys =>
      rw [q] at e
      dsimp only [Option.bind] at e
      split at e
      · rename_i hz
        cases e
        obtain ⟨x, rfl, b, vs, rfl, h1, k1⟩ := r.one
        have := strsD_reps k1 q
        subst this
        exact ⟨_, b, ys.map st, rfl, rfl, .inl (.inl h1), fin ys hz, by rw [join_st]; exact vnS fh k⟩
      · cases e
  · rename_i xs
    cases q : strsD xs with
    | none => rw [q] at e; cases e
    | some ys =>
      rw [q] at e
      dsimp only [Option.bind] at e
      split at e
      · rename_i hz
        cases e
        obtain ⟨x, rfl, r1⟩ := r.one
        obtain ⟨b, vs, rfl, h1, k1⟩ := pkTup r1
        have := strsD_reps k1 q
        subst this
        exact ⟨_, b, ys.map st, rfl, rfl, .inr (fh.sqT h1), fin ys hz, by rw [join_st]; exact vnS fh k⟩
      · cases e
  · cases e
theorem op_join {X : Cx} : MtR X "str.join" (rJoin X.K) := mt_join
/-- x.rjust(n, c) -/
def rjustD : List Nat → List D → Option Slot
  | a, [.int n, .str [f]] => if -1048576 ≤ n ∧ n ≤ 16777216 then some (false, .str (List.replicate (n.toNat - a.length) f ++ a)) else none
  | _, _ => none
def rRjust : V → List V → Hp → VK → Prop := fun x xs H Q => ∃ a n f, x = .str (st a) ∧ xs = [.int n, .str (st [f])] ∧ -1048576 ≤ n ∧ n ≤ 16777216 ∧ Q (.str (st (List.replicate (n.toNat - a.length) f ++ a))) H
theorem st_list {x : Str} {l : List Nat} (h : x.cps.toList = l) : x = st l := by
  cases x with
  | mk c =>
    subst h
    simp [st]
theorem op_rjust {X : Cx} : MtR X "str.rjust" rRjust := by
  intro pins s σ H x xs v us Q I rx rs h
  obtain ⟨a, n, f, rfl, rfl, h1, h2, h⟩ := h
  obtain ⟨t, rfl⟩ := rx
  cases rs with
  | cons r1 rs =>
    cases rs with
    | cons r2 rs =>
      cases rs
      obtain ⟨u, rfl⟩ := r1
      obtain ⟨z, rfl⟩ := r2
      refine rjust_fill ?_ rfl fun t' k => ⟨.str (st (List.replicate (n.toNat - a.length) f ++ a)), H, I.tok k, ⟨t', ?_⟩, h⟩
      · unfold PadOk
        have e1 : fitsSsize n = true := by unfold fitsSsize; simp; omega
        have e2 : Builtin.Str.tooLong n.toNat = false := by unfold Builtin.Str.tooLong; simp [sizeLine]; omega
        rw [e1, e2]; rfl
      · rw [st_list (rjustF_list _ _ _)]
        rfl
theorem ok_rjust : SmOk K rjustD rRjust := by
  intro F H a ds xs s Q fh r e k
  unfold rjustD at e
  split at e
  · split at e
    · cases e
      rename_i hz
      obtain ⟨x, y, rfl, r1, r2⟩ := r.two
      have r1 : x = .int _ := r1
      have r2 : y = .str _ := r2
      subst r1; subst r2
      exact ⟨_, _, _, rfl, rfl, hz.1, hz.2, vnS fh k⟩
    · cases e
  · cases e
end
/-! ### xs[i] op= e of an owned list -/
def augIxS (j : Nat) (I : M D) (f : D → D → Option Slot) (A : M D) : SM := fun ρ => if owned ρ j then (I.thenS fun i ρ1 => match ρ1[j]?, i with
  | some (some (true, .lst xs)), .int i => (match L2.atI xs i with
    | some d0 => (A.thenS fun d ρ2 => match f d0 d with
      | some (false, z) => (match ρ2[j]? with
        | some (some (true, .lst ys)) => (match ixN ys.length i with
          | some k => .nx (ρ2.set j (some (true, .lst (ys.set k z))))
          | none => .bad)
        | _ => .bad)
      | _ => .bad) ρ1
    | none => .bad)
  | _, _ => .bad) ρ else .bad
section
variable {X : Cx} {c : Ct} {e : Expr} {pos : Pos}
theorem get_lst : PGet X (rIxL X.K) := by
  intro pins s σ H x y v u Q I rx ry h
  obtain ⟨p, xs, i, z, rfl, rfl, hq, he, q⟩ := h
  cases rx
  obtain ⟨t, rfl⟩ := ry
  obtain ⟨its, r, pl, hz⟩ := I.list hq
  obtain ⟨j, h1, h2, h3, h4, h5⟩ := atI_get he
  obtain ⟨w, ew, rw'⟩ := r.get h2
  have hl := r.length
  have hn := line63
  have fin : EP X pins σ Q w s := ⟨z, H, I, rw', q⟩
  by_cases h0 : 0 ≤ i
  · have hj : i.toNat = j := by
      rw [seqIndex_of h0 h5] at h1
      exact Option.some.inj h1
    exact wpAny_getItem_list pl.isList h0 (by omega) (by rw [hj]; simpa using ew) fin
  · have hj : (i + (its.toArray.size : Int)).toNat = j := by
      rw [seqIndex_neg (by omega) h4] at h1
      rw [List.size_toArray, ← hl]
      exact Option.some.inj h1
    exact wpAny_getItem_list_neg pl.isList (by omega) (by rw [List.size_toArray]; omega) (by omega) (by rw [hj]; simpa using ew) fin
theorem s_augIx {j : Nat} {x : Str} {i : Expr} {I A : M D} {px tpos : Pos} {op : Operator} {f : D → D → Option Slot} {r : R2} (hk : c.K = X.K) (hx : PE X (.Name x px) (tVar j)) (hi : PE X i (tP c I)) (he : PE X e (tP c A)) (ho : OpR X (inplaceOp op) r) (ok : OpOk c.K f r)
    (ha : ∀ ov iv new, augStore i ov iv new = (do holding [new, ov, iv] (setItem ov iv new); release [new, ov, iv] []; pure .next) := by intros; rfl) :
    PS X (.AugAssign (.Subscript (.Name x px) i tpos) op e pos) (tS c (augIxS j I f A)) := by
  refine (ps_augS hx hi get_lst he (tip := r) (fun pins s σ H x y v u Q I rx ry h => ho pins s σ H x y v u Q I rx ry h) set_list ha).imp fun D σ H ⟨F, ρ, S, k⟩ => ?_
  unfold augIxS at k
  split at k
  · rename_i hw
    obtain ⟨d0, e0⟩ := owned_get hw
    obtain ⟨u, e1, p, rfl, _, _, k0⟩ := S.sl j _ e0
    refine ⟨.ref p, e1, F, ρ, S, k.step fun i' ρ1 iv F1 H1 S1 r1 f1 h1 a1 => ?_⟩
    split at a1
    · rename_i xs i e2
      split at a1
      · rename_i d0 hd
        obtain ⟨u', e3, p', ep, _, _, k1⟩ := S1.sl j _ e2
        rw [e1] at e3; cases e3; cases ep
        obtain ⟨us, hu, ru⟩ := k1
        have r1 : iv = .int i := r1
        obtain ⟨v0, hv0, rv0⟩ := ru.atI hd
        refine ⟨p, us, i, v0, rfl, r1, .inl (.inl hu), hv0, F1, ρ1, S1, a1.step fun d ρ2 y F2 H2 S2 r2 f2 h2 a2 => ?_⟩
        split at a2
        · rename_i z hz
          refine ok F2 H2 d0 d v0 y _ _ S2.fh (Rep.pk S2.fh (Rep.mono f2 _ _ rv0)) r2 hz fun zv F3 H3 g3 n3 => ?_
          have S3 := S2.grow g3
          split at a2
          · rename_i ys e4
            split at a2
            · rename_i k hk2
              obtain ⟨u', e5, p', ep, _, _, k2⟩ := S3.sl j _ e4
              rw [e1] at e5; cases e5; cases ep
              obtain ⟨us2, hu2, ru2⟩ := k2
              refine ⟨p, us2, i, k, rfl, r1, hu2, by rw [← ru2.length]; exact hk2, ?_⟩
              exact a2 σ F3 _ (S3.upd e4 e1 ⟨_, upd_same, ru2.set k n3⟩)
            · exact a2.elim
          · exact a2.elim
        · exact a2.elim
      · exact a1.elim
    · exact a1.elim
  · exact k.elim
end
/-! ### a chain of two comparisons -/
def chn (f f' : D → D → Option Slot) (A1 A2 A3 : M D) : M Slot := A1.bind fun d1 => A2.bind fun d2 => (M.lift (f d1 d2)).bind fun s => match s with
  | (false, .bl true) => A3.bind fun d3 => M.lift (f' d2 d3)
  | (false, .bl false) => ret (false, .bl false)
  | _ => fun _ => .bad
section
variable {X : Cx} {c : Ct} {a b e : Expr} {pos : Pos}
theorem chn_tr {f f' : D → D → Option Slot} {r r' : R2} {A1 A2 A3 : M D} (ok : OpOk c.K f r) (ok' : OpOk c.K f' r') {σ : L2.St} {H : Hp} {Q : VK} (h : tE c (chn f f' A1 A2 A3) σ H Q) : tChain r r' (tP c A1) (tP c A2) (tP c A3) σ H Q := by
  obtain ⟨F, ρ, S, k⟩ := h
  refine ⟨F, ρ, S, k.step fun d1 ρ1 x F1 H1 S1 r1 f1 h1 a1 => ⟨F1, ρ1, S1, a1.step fun d2 ρ2 y F2 H2 S2 r2 f2 h2 a2 => ?_⟩⟩
  unfold M.bind M.lift at a2
  cases q : f d1 d2 with
  | none => rw [q] at a2; exact a2.elim
  | some s =>
    rw [q] at a2
    dsimp only at a2
    refine ok F2 H2 d1 d2 x y s _ S2.fh (r1.mono f2 h2) r2 q fun z F3 H3 g3 n3 => ?_
    have S3 := S2.grow g3
    have a3 := Aft.up a2 g3.f g3.h
    split at a3
    · have n3 : z = .bl true := n3
      refine ⟨true, n3, ?_⟩
      rw [if_pos rfl]
      refine ⟨F3, ρ2, S3, Aft.step (f := fun d3 => M.lift (f' d2 d3)) a3 fun d3 ρ3 w F4 H4 S4 r4 f4 h4 a4 => ?_⟩
      obtain ⟨s, e, k⟩ := a4.lift S4
      exact ok' F4 H4 d2 d3 y w s Q S4.fh (r2.mono (g3.f.trans f4) (g3.h.trans h4)) r4 e k
    · have n3 : z = .bl false := n3
      refine ⟨false, n3, ?_⟩
      rw [if_neg Bool.false_ne_true]
      exact a3 _ F3 H3 S3 (Sub.refl _) (Sub.refl _) ⟨rfl, fun z => by cases z⟩
    · exact a3.elim
theorem e_chn {op op' : CmpOp} {f f' : D → D → Option Slot} {r r' : R2} {A1 A2 A3 : M D} (ho : OpR X (compareOp op) r) (ho' : OpR X (compareOp op') r') (ok : OpOk c.K f r) (ok' : OpOk c.K f' r') (ha : PE X a (tP c A1)) (hb : PE X b (tP c A2)) (he : PE X e (tP c A3))
    (hm : lastMarks [op, op'] [b, e] = false := by with_unfolding_all rfl) : PE X (.Compare a [op, op'] [b, e] pos) (tE c (chn f f' A1 A2 A3)) := (pe_chain ho ho' ha hb he hm).imp fun _ _ _ h => chn_tr ok ok' h
theorem t_chn {op op' : CmpOp} {f f' : D → D → Option Slot} {r r' : R2} {A1 A2 A3 : M D} (ho : OpR X (compareOp op) r) (ho' : OpR X (compareOp op') r') (ok : OpOk c.K f r) (ok' : OpOk c.K f' r') (ha : PE X a (tP c A1)) (hb : PE X b (tP c A2)) (he : PE X e (tP c A3))
    (hm : lastMarks [op, op'] [b, e] = false := by with_unfolding_all rfl) : PT X (.Compare a [op, op'] [b, e] pos) (tT c (asB (chn f f' A1 A2 A3))) := by
  refine (pt_chain ho ho' ha hb he hm).imp fun σ H Q h => ?_
  obtain ⟨F, ρ, S, k⟩ := asB_tr h
  exact chn_tr ok ok' ⟨F, ρ, S, k⟩
/-- - -/
def una (f : D → Option Slot) (A : M D) : M Slot := A.bind fun d => M.lift (f d)
def negD : D → Option Slot
  | .int i => some (false, .int (-i))
  | _ => none
theorem e_neg {A : M D} (ha : PE X a (tP c A)) : PE X (.UnaryOp .USub a pos) (tE c (una negD A)) := by
  refine (pe_un un_neg ha).imp fun σ H Q ⟨F, ρ, S, k⟩ => ⟨F, ρ, S, k.step fun d ρ1 x F1 H1 S1 r1 f1 h1 a1 => ?_⟩
  obtain ⟨s, e, k⟩ := a1.lift S1
  unfold negD at e
  split at e
  · cases e
    exact ⟨_, r1, vnI S1.fh k⟩
  · cases e
end

/-! ### op= -/
def addIA : D → D → Option Slot
  | .int i, .int j => some (false, .int (i + j))
  | .str s, .str t => if s.length + t.length ≤ sizeLine then some (false, .str (s ++ t)) else none
  | _, _ => none
def rAddIA : R2 := fun x y H Q => rAddI x y H Q ∨ rAddS x y H Q
theorem iop_addA {X : Cx} : OpR X (inplaceOp .Add) rAddIA := OpR.or (r := rAddI) iop_add (r' := rAddS) iop_add_str
def mulID : D → D → Option Slot
  | .int i, .int j => if (-(2 ^ 64) < i ∧ i < 2 ^ 64) ∨ (-(2 ^ 64) < j ∧ j < 2 ^ 64) then some (false, .int (i * j)) else none
  | _, _ => none
theorem iop_mulI {X : Cx} : OpR X (inplaceOp .Mult) (rI CMul fun i j => .int (i * j)) := iop_mul
section
variable {K : Fr}
theorem ok_addI : OpOk K addIA rAddIA := by
  intro F H d1 d2 x y s Q fh r1 r2 e k
  unfold addIA at e
  split at e
  · cases e
    exact .inl ⟨_, _, r1, r2, vnI fh k⟩
  · split at e
    · cases e
      rename_i s t hz
      exact .inr ⟨_, _, r1, r2, hz, by rw [st_app]; exact vnS fh k⟩
    · cases e
  · cases e
theorem ok_mulI : OpOk K mulID (rI CMul fun i j => .int (i * j)) := by
  intro F H d1 d2 x y s Q fh r1 r2 e k
  unfold mulID at e
  split at e
  · split at e
    · cases e
      rename_i hm
      exact ⟨_, _, r1, r2, hm, vnI fh k⟩
    · cases e
  · cases e
end
end PM
namespace PM
open PySem L2 PyProof.Rows

/-! ### module constants; calls in a comprehension -/
section
variable {X : Cx} {c : Ct} {x : Str} {pos : Pos}
theorem e_gint {i : Int} (hg : Gl X x) (hm : ∃ t, X.mg x = some (.int i t)) (hd : (x == ("__debug__" : Str)) = false := by decide) : PE X (.Name x pos) (tE c (cst (.int i))) := by
  obtain ⟨t, hm⟩ := hm
  exact e_cst (pe_glob (v := .int i) hg hm ⟨t, rfl⟩ hd) fun _ => rfl
theorem e_gstr {z : Str} {s : List Nat} (hg : Gl X x) (hm : ∃ t, X.mg x = some (.str z t)) (hz : z = st s := by rfl) (hd : (x == ("__debug__" : Str)) = false := by decide) : PE X (.Name x pos) (tE c (cst (.str s))) := by
  obtain ⟨t, hm⟩ := hm
  exact e_cst (pe_glob (v := .str z) hg hm ⟨t, rfl⟩ hd) fun _ => by rw [hz]; rfl
theorem tkB {X : Cx} : Takes X (fun _ _ _ _ => False) := fun _ _ ⟨_, _, _, _, _, _, _, _, _, _, _, _, _, _, _, _, w⟩ => w.elim
/-- pure of test: a statement that is left out -/
def fuel : Nat := 1000000
end

/-! ### the end -/
def CXU (P : Program) : CXT := fun outer H s E e s' => ∃ w, L2.CX P w outer H s E e s'
theorem cxu {P : Program} {w : World} {K : Fr} {mg : Str → Option Value} {base : Heap} {k : Nat} {f : Addr} {fd : FuncData} {ps : List Str} {sp : Sp} (G : FnOk P w K mg base (L2.CX P w) k f fd ps sp) : FnOk P w K mg base (CXU P) k f fd ps sp :=
  ⟨G.len, fun A outer s H args us vs Q E hr he hb hv hs => codeAny_mono (G.run A outer s H args us vs Q E hr he hb hv hs) fun r s' h => by
    cases r with
    | error e => exact ⟨w, h⟩
    | ok fl => cases fl <;> exact h⟩
theorem cxu_no {P : Program} (H : Hp) (s : Shared) (e : Value) (s' : Shared) (h : CXU P [] H s (fun _ _ _ => False) e s') : False := by
  obtain ⟨w, a, B, H', cls, d, h⟩ := h
  exact h.2.2.2.2.2.2.2
def isLst (o : Obj) : Bool := match o.cls with
  | .type n => n == "list"
  | _ => false
/-- no list among the known objects -/
def noLst (K : PySem.W.Frag) : Bool := K.all fun p => !isLst p.2
theorem noLst_ok {K : PySem.W.Frag} (h : noLst K = true) {a : Addr} {o : Obj} (e : K.lookup a = some o) (c : o.cls = .type "list") : False := by
  have m : ∃ p ∈ K, p.2 = o := by
    clear h
    induction K with
    | nil => cases e
    | cons p K ih =>
      rw [List.lookup_cons] at e
      split at e
      · cases e
        exact ⟨p, List.mem_cons_self, rfl⟩
      · obtain ⟨q, hq, e'⟩ := ih e
        exact ⟨q, List.mem_cons_of_mem _ hq, e'⟩
  obtain ⟨p, hp, rfl⟩ := m
  have := List.all_eq_true.mp h p hp
  unfold isLst at this
  rw [c] at this
  exact absurd this (by decide)
abbrev AlM : Type := He.AlD × Bool
def obsM (n : Nat) (fa : List He.Fa) (fn : List He.DefD) (g : Addr → Option Obj) : AlM := (He.obsD fa fn (He.frG g (He.asD g n)), noLst (He.frG g (He.asD g n)))
def hookM (n : Nat) (fa : List He.Fa) (fn : List He.DefD) : PySem.W.Hook where
  α := AlM
  obs := fun s => obsM n fa fn s.heap.get?
  val := fun _ => (He.valD fn, true)
  says := fun _ h => ∃ K : PySem.W.Frag, K.In h ∧ He.SaysD fa fn K ∧ noLst K = true
  of := fun _ _ e => ⟨_, He.frG_in, congrArg (fun z : AlM => z.1) e, congrArg (fun z : AlM => z.2) e⟩
  keeps := fun _ _ _ ⟨K, hK, c⟩ k => ⟨K, PySem.W.Frag.In.keeps hK k, c⟩
theorem obsM_eq {n : Nat} {fa : List He.Fa} {fn : List He.DefD} {g : Addr → Option Obj} {s : Shared} (h : ∀ a, g a = s.heap.get? a) : obsM n fa fn g = (hookM n fa fn).obs s := by
  have e : g = s.heap.get? := funext h
  rw [e] <;> rfl
/-- the script's datum -/
def scr (ns : List Int) : D := .lst (ns.map D.int)
theorem reps_ints {K : Fr} {F : Hp} : ∀ ns : List Int, Reps K F (ns.map D.int) (ns.map V.int)
  | [] => Reps.nil
  | n :: ns => Reps.cons rfl (reps_ints ns)
theorem law_sp {K : Fr} {mg : Str → Option Value} {M : FM} (hK : noLst K = true) {n : Nat} (hM : ∀ ns : List Int, ns.length ≤ n → M [scr ns] = .ok (false, .bl true)) (H : Hp) (a : Addr) (ns : List Int) (hl : ns.length ≤ n) (hS : SqL K H a (ns.map V.int)) :
    spF K mg M 1 [.ref a] H (fun v _ => v = .bl true) fun _ _ _ => False := by
  refine ⟨rfl, H, [scr ns], Sub.refl _, ?_, ?_⟩
  · refine Reps.cons ?_ Reps.nil
    unfold scr Rep
    rcases hS with h | ⟨o, its, m, h1, h2, _⟩
    · exact ⟨a, _, rfl, h, reps_ints ns⟩
    · exact (noLst_ok hK h1 h2).elim
  · rw [hM ns hl]
    exact fun v F' H' g n => n
end PM
namespace PM
open PySem L2 PyProof.Rows

/-! ### what simp may use -/
theorem mulOk_l {i j : Int} (h1 : -(2 ^ 64) < i) (h2 : i < 2 ^ 64) : mulOk i j = true := by
  unfold mulOk
  rw [decide_eq_true (show -(2 ^ 64) < i ∧ i < 2 ^ 64 from ⟨h1, h2⟩)]
  simp
theorem mulOk_r {i j : Int} (h1 : -(2 ^ 64) < j) (h2 : j < 2 ^ 64) : mulOk i j = true := by
  unfold mulOk
  rw [decide_eq_true (show -(2 ^ 64) < j ∧ j < 2 ^ 64 from ⟨h1, h2⟩)]
  simp
theorem atI_nat {α : Type} {xs : List α} {i : Nat} (h : i < xs.length) : atI xs (i : Int) = xs[i]? := by
  unfold atI ixN
  simp [h]
theorem ixN_nat {n i : Nat} (h : i < n) : ixN n (i : Int) = some i := by
  unfold ixN
  simp [h]
theorem atI_int {α : Type} {xs : List α} {i : Int} (h0 : 0 ≤ i) (h : i < xs.length) : atI xs i = xs[i.toNat]? := by
  have := atI_nat (xs := xs) (i := i.toNat) (by omega)
  rwa [Int.toNat_of_nonneg h0] at this
theorem cut1 {α : Type} (xs : List α) : cut xs (some 1) none = xs.drop 1 := by
  unfold cut
  rw [show HT.sIx xs.length 0 (some 1) = min 1 xs.length from HT.sIx_nat xs.length 0 1, HT.sIx_none]
  cases xs with
  | nil => rfl
  | cons x r => simp
/-! ### equality of ints, texts, lists of ints -/
theorem shp_int (i : Int) : SeqAt.shaped (PyData.int i) = true := by simp [SeqAt.shaped, PyData.canLay0, PyData.depth]
/-- characters -/
def okS (s : List Nat) : Bool := s.all (· < 0x110000)
theorem shp_str {i : List Nat} (h : okS i = true) : SeqAt.shaped (PyData.str (st i)) = true := by
  have : PyData.strOk (st i) = true := by
    unfold PyData.strOk st
    unfold okS at h
    rw [List.all_toArray]
    exact h
  simp [SeqAt.shaped, PyData.canLay0, PyData.depth, this]
theorem eqv_int (i j : Int) : eqvD (.int i) (.int j) = some (decide (i = j)) := by
  unfold eqvD toPy
  simp only [shp_int, Bool.and_self, if_true]
  rfl
theorem st_inj {i j : List Nat} (h : st i = st j) : i = j := by
  have := congrArg (fun s : Str => s.cps.toList) h
  simpa [st] using this
theorem eqv_str {i j : List Nat} (hi : okS i = true) (hj : okS j = true) : eqvD (.str i) (.str j) = some (decide (i = j)) := by
  unfold eqvD toPy
  simp only [shp_str hi, shp_str hj, Bool.and_self, if_true]
  congr 1
  unfold PyData.eqv
  by_cases e : i = j
  · subst e; simp
  · have : st i ≠ st j := fun z => e (st_inj z)
    simp [e, this]
theorem toPys_ints : ∀ l : List Int, toPys (l.map D.int) = some (l.map PyData.int)
  | [] => rfl
  | i :: l => by
    rw [List.map_cons, toPys, toPys_ints l]
    rfl
theorem eqvAll_ints : ∀ a b : List Int, PyData.eqvAll (a.map PyData.int) (b.map PyData.int) = decide (a = b)
  | [], [] => by simp [PyData.eqvAll]
  | [], _ :: _ => by simp [PyData.eqvAll]
  | _ :: _, [] => by simp [PyData.eqvAll]
  | n :: r, k :: q => by
    simp only [List.map_cons, PyData.eqvAll, eqvAll_ints r q]
    unfold PyData.eqv
    by_cases h : n = k <;> simp [h]
theorem eqv_ints (a b : List Int) : eqvD (.lst (a.map D.int)) (.lst (b.map D.int)) = some (decide (a = b)) := by
  unfold eqvD toPy
  rw [toPys_ints, toPys_ints]
  simp only [Option.map_some, PySem.W.shaped_ints, Bool.and_self, if_true]
  congr 1
  unfold PyData.eqv
  exact eqvAll_ints a b
theorem eqv_self {d : D} {p : PyData} (h : toPy d = some p) (hs : SeqAt.shaped p = true) : eqvD d d = some true := by
  unfold eqvD
  rw [h]
  simp only [hs, Bool.and_self, if_true]
  have : PyData.canLay0 p = true := by
    unfold SeqAt.shaped at hs
    exact (Bool.and_eq_true_iff.mp hs).1
  rw [SeqAt.eqv_refl p this]
/-! ### loops -/
section
variable {G : M Bool} {S : SM} {T : Tg} {n : Nat} {ρ ρ1 ρ2 ρ3 : Env} {d : D} {ds : List D} {s : Slot} {e : Exn}
theorem while_go (h : G ρ = .ok true ρ1) (h2 : S ρ1 = .nx ρ2) : whileF G S (n + 1) ρ = whileF G S n ρ2 := by
  rw [whileF, h]; dsimp only; rw [h2]
theorem while_ct (h : G ρ = .ok true ρ1) (h2 : S ρ1 = .ct ρ2) : whileF G S (n + 1) ρ = whileF G S n ρ2 := by
  rw [whileF, h]; dsimp only; rw [h2]
theorem while_stop (h : G ρ = .ok false ρ1) : whileF G S (n + 1) ρ = .nx ρ1 := by
  rw [whileF, h]
theorem while_rt (h : G ρ = .ok true ρ1) (h2 : S ρ1 = .rt s) : whileF G S (n + 1) ρ = .rt s := by
  rw [whileF, h]; dsimp only; rw [h2]
theorem while_bk (h : G ρ = .ok true ρ1) (h2 : S ρ1 = .bk ρ2) : whileF G S (n + 1) ρ = .nx ρ2 := by
  rw [whileF, h]; dsimp only; rw [h2]
theorem for_nil : forF T S [] ρ = .nx ρ := rfl
theorem for_go (h : T d ρ = some ρ1) (h2 : S ρ1 = .nx ρ2) : forF T S (d :: ds) ρ = forF T S ds ρ2 := by
  rw [forF, h]; dsimp only; rw [h2]
theorem for_ct (h : T d ρ = some ρ1) (h2 : S ρ1 = .ct ρ2) : forF T S (d :: ds) ρ = forF T S ds ρ2 := by
  rw [forF, h]; dsimp only; rw [h2]
theorem for_rt (h : T d ρ = some ρ1) (h2 : S ρ1 = .rt s) : forF T S (d :: ds) ρ = .rt s := by
  rw [forF, h]; dsimp only; rw [h2]
theorem for_bk (h : T d ρ = some ρ1) (h2 : S ρ1 = .bk ρ2) : forF T S (d :: ds) ρ = .nx ρ2 := by
  rw [forF, h]; dsimp only; rw [h2]
theorem fuel_eq (m : Nat) (h : m ≤ 100000) : ∃ k, fuel = m + 1 + k := ⟨1000000 - (m + 1), by unfold fuel; omega⟩
end
theorem comp_go {T : Tg} {G : M Bool} {E : M D} {vs : List Nat} {d x : D} {ds xs : List D} {ρ ρ1 ρ2 ρ3 ρ4 : Env} (hT : T d (wipeE ρ vs) = some ρ1) (hG : G ρ1 = .ok true ρ2) (hE : E ρ2 = .ok x ρ3) (hr : compF T G E vs ds (restE ρ ρ3 vs) = .ok xs ρ4) :
    compF T G E vs (d :: ds) ρ = .ok (x :: xs) ρ4 := by
  rw [compF, hT]; dsimp only; rw [hG]; dsimp only; rw [hE]; dsimp only; rw [hr]
theorem comp_no {T : Tg} {G : M Bool} {E : M D} {vs : List Nat} {d : D} {ds xs : List D} {ρ ρ1 ρ2 ρ4 : Env} (hT : T d (wipeE ρ vs) = some ρ1) (hG : G ρ1 = .ok false ρ2) (hr : compF T G E vs ds (restE ρ ρ2 vs) = .ok xs ρ4) :
    compF T G E vs (d :: ds) ρ = .ok xs ρ4 := by
  rw [compF, hT]; dsimp only; rw [hG]; dsimp only; rw [hr]
theorem lc_ok {A : M (List D)} {T : Tg} {G : M Bool} {E : M D} {vs : List Nat} {ds xs : List D} {ρ ρ1 ρ2 : Env} (hA : A ρ = .ok ds ρ1) (hc : clean vs ρ1 = true) (hl : ds.length < sizeLine) (h : compF T G E vs ds ρ1 = .ok xs ρ2) : lcE A T G E vs ρ = .ok (true, .lst xs) ρ2 := by
  unfold lcE M.bind
  rw [hA]
  dsimp only
  rw [hc, decide_eq_true hl]
  simp only [Bool.and_self, if_true]
  rw [h]
theorem seq_nx {S1 S2 : SM} {ρ ρ1 : Env} (h : S1 ρ = .nx ρ1) : seqS S1 S2 ρ = S2 ρ1 := by
  unfold seqS
  rw [h]
theorem run_rt {N n : Nat} {S : SM} {ds : List D} {s : Slot} (hl : ds.length = n) (h : S (initE N ds) = .rt s) : runF N n S ds = .ok s := by
  unfold runF
  rw [if_pos hl, h]
theorem for_nx {A : M (List D)} {T : Tg} {S : SM} {ds : List D} {ρ ρ1 : Env} (h : A ρ = .ok ds ρ1) : forS A T S ρ = forF T S ds ρ1 := by
  unfold forS M.thenS
  rw [h]
end PM
namespace PM
open PySem L2 PyProof.Rows
variable {pp : Pin}

/-! ### try with clauses, some with a name -/
def goneE (D : Ends) (i : Nat) : Ends := { nx := fun σ H => D.nx (σ.set i none) H, bk := fun σ H => D.bk (σ.set i none) H, ct := fun σ H => D.ct (σ.set i none) H, rt := D.rt }
abbrev SuT := Addr → Value → Option Addr → TS
/-- what a clause makes of the exception at a -/
def wHd (D : Ends) (o : Option Nat) (ts : SuT) (a : Addr) (cls : Value) (d : Option Addr) (σ : L2.St) (H : Hp) : Prop := match o with
  | none => ts a cls d D σ H
  | some i => ts a cls d (goneE D i) (σ.set i (some (.ref a))) H
def wTry (K : Fr) (W : WX) (D : Ends) : List (Value × Option Nat × SuT) → WX
  | [] => W
  | (c, o, ts) :: r => fun cls d σ H => ∃ b, PySem.W.exmOne K cls c = some b ∧ (b = true → ∀ a, H a = none → wHd D o ts a cls d σ H) ∧ (b = false → wTry K W D r cls d σ H)
/-- the suite's promise -/
def SuOk (X : Cx) (su : List Stmt) (ts : SuT) : Prop := ∀ (a : Addr) (oe : Obj) (cls : Value) (d : Option Addr) (pn : List (Addr × Obj)), Zc cls d oe → (∃ vs, oe.data = .fields vs) → PSs (X.suite a ((a, oe) :: pn)) su (ts a cls d)
inductive HdOk (X : Cx) : List ExceptHandler → List (Value × Option Nat × SuT) → Prop
  | nil : HdOk X [] []
  | plain {x : Str} {c : Value} {ts : SuT} {s0 : Stmt} {su : List Stmt} {p1 p2 : Pos} {hs : List ExceptHandler} {l : List (Value × Option Nat × SuT)} (n : Names X x c) (s : SuOk X (s0 :: su) ts) (r : HdOk X hs l) :
      HdOk X (.ExceptHandler (some (.Name x p1)) none (s0 :: su) p2 :: hs) ((c, none, ts) :: l)
  | named {x y : Str} {c : Value} {ts : SuT} {i : Nat} {s0 : Stmt} {su : List Stmt} {p1 p2 : Pos} {hs : List ExceptHandler} {l : List (Value × Option Nat × SuT)} (n : Names X x c) (hi : X.N[i]? = some y) (hl : X.env.kindOf y = some .local) (s : SuOk X (s0 :: su) ts) (r : HdOk X hs l) :
      HdOk X (.ExceptHandler (some (.Name x p1)) (some y) (s0 :: su) p2 :: hs) ((c, some i, ts) :: l)
section
variable {X : Cx} {body : List Stmt} {h0 : ExceptHandler} {hs : List ExceptHandler} {l : List (Value × Option Nat × SuT)} {pos : Pos} {tb : WX → TS} {W : WX}
theorem ps_tryM (hst : X.stack = X.env :: X.outer) (hfm : X.env.frame = some X.env.locals) (hN : X.N.Nodup) (tk : Takes X W)
    (hb : ∀ (W' : WX) (pn : List (Addr × Obj)) (xe : Value → Shared → Prop), Takes (X.tr pn xe) W' → PassesOwn (model X.prog X.w) X.A X.env xe → PSs (X.tr pn xe) body (tb W')) (hh : HdOk X (h0 :: hs) l) :
    PS X (.Try body (h0 :: hs) [] [] pos) (fun D σ H => tb (wTry X.K W D l) D σ H) := by
  refine ⟨fun pins s σ H D I hw => ?_⟩
  have okX := I.ok
  have frX : X.A.frames = some (X.env :: X.outer) := by rw [okX.frames, hst]
  refine wpAny_Try_except (wpAny_mono ((hb (wTry X.K W D l) (X.pn ++ pins) _ (fun u t xx => ?_) PassesOwn.looking).run [] s σ H D (I.toTry _) hw) (fun f t q => ?_) (fun _ _ q => q))
  · obtain ⟨a, B, t0, pins', σ1, H1, cls, d, rfl, J1, nb, up, sk, na, os, ag, w⟩ := xx
    have J : Inv X pins σ1 H1 t0 := J1.ofTry okX
    rw [hst] at sk
    show wpAny (model X.prog X.w) X.A (noteFrame (.ref a) X.env) _ _ _
    refine Sky.land Zc.steady frX hfm sk fun hp fl ups => ?_
    obtain ⟨oe, vs, ge, ze, de⟩ := fl.there
    have Jp : Inv X pins σ1 H1 { t with heap := hp } := J.landed nb fl.1 (up.trans ups) os ag
    -- the exception is no frame's dict
    have far : a ∉ frs (X.env :: X.outer) := fun m => by
      obtain ⟨_, o', e1, e2⟩ := fl.2.2.1.mem m
      rw [ge] at e1
      cases e1
      exact e2 _ de
    have f1 : a ≠ X.env.locals := fun z => far (List.mem_filterMap.mpr ⟨X.env, List.mem_cons_self, by rw [hfm, z]⟩)
    have f2 : a ∉ X.fs := fun m => by
      obtain ⟨e, m1, m2⟩ := List.mem_filterMap.mp m
      exact far (List.mem_filterMap.mpr ⟨e, List.mem_cons_of_mem _ m1, m2⟩)
    have Sp := Jp.suite ge de na f1 f2
    have cls_of : PySem.W.Looks (model X.prog X.w) hp (typeOf (.ref a)) cls := fun A Q E s k q => wpAny_typeOf_ref (k _ _ ge) (by rw [ze.1]; exact q)
    -- the clause's class is looked at
    have ask : ∀ {x : Str} {c : Value} {p1 : Pos} {b : Bool} {R : Bool → Shared → Prop} {E : Value → Shared → Prop}, Names X x c → PySem.W.exmOne X.K cls c = some b → R b { t with heap := hp } →
        wpAny (model X.prog X.w) (X.A.mark (some (.ref a))) (eval (.Name x p1) X.env) (fun c' s' => wpAny (model X.prog X.w) (X.A.mark (some (.ref a))) (excMatches (.ref a) c') R E s') E { t with heap := hp } := fun {x c p1 b R E} n e q => by
      have LM := PySem.W.exm_one (M := model X.prog X.w) Jp.kIn cls_of e
      obtain ⟨g1, g2, g3 | ⟨g3, g4, g5⟩⟩ := n
      · exact ld_glob (X := X.suite a ((a, oe) :: (X.pn ++ pins))) Sp g1 g3 (LM.here q) g2
      · exact ld_blt (X := X.suite a ((a, oe) :: (X.pn ++ pins))) Sp g1 g3 g4 (LM.here q) g5 g2
    have walk : ∀ {hs' : List ExceptHandler} {l' : List (Value × Option Nat × SuT)}, HdOk X hs' l' → wTry X.K W D l' cls d σ1 H1 →
        wpAny (model X.prog X.w) X.A (handleBy (.ref a) X.env hs') (SP X pins D) X.xe { t with heap := hp } := by
      intro hs' l' ok
      induction ok with
      | nil =>
        intro w'
        obtain ⟨_, _, _, o1, v1, T, oT, r1, g1, z1, d1, c1, rest⟩ := id fl
        refine wpAny_handleBy_nil ?_
        unfold PySem.passOn
        refine wpAny_bind (wpAny_field g1 d1 c1 ?_)
        rw [if_neg (show ¬ ((Value.ref T == Value.none) = true) by simp)]
        have go : wpAny (model X.prog X.w) X.A (setFlight (.ref a) X.env.frame) (fun _ s' => wpAny (model X.prog X.w) X.A (throw (.ref a) : Sem Flow) (SP X pins D) X.xe s') X.xe { t with heap := hp } := by
          rw [hfm]
          exact HandSPX.setFlight_upZ fl fun h2 k2 u2 => wpAny_throw (tk _ _ ⟨a, B, t0, pins, σ1, H1, cls, d, rfl, J, nb, (up.trans ups).trans u2, .inr (.inr (by rw [hst]; exact k2)), na, os, ag, w'⟩)
        first
          | exact wpAny_bind (wpAny_pure (wpAny_bind go))
          | exact wpAny_bind go
      | plain n su r ih =>
        intro w'
        obtain ⟨b, e, yes, no⟩ := w'
        refine wpAny_handleBy_cons (codeAny_handlers_test (ask n e ?_)) (by intro z; cases z)
        cases b with
        | false => exact ih (no rfl)
        | true =>
          refine codeAny_handlers_suite (HandSPX.lands_againZ fl fun h2 fl2 u2 => ?_)
          obtain ⟨o2, v2, g2, z2, d2⟩ := fl2.there
          have J2 : Inv X pins σ1 H1 { t with heap := h2 } := J.landed nb fl2.1 ((up.trans ups).trans u2) os ag
          have S2 := J2.suite g2 d2 na f1 f2
          refine wpAny_mono ((su a o2 cls d (X.pn ++ pins) z2 ⟨_, d2⟩).run [] _ _ H1 _ S2 (yes rfl a na)) (fun f t3 q => ?_) (fun _ _ z => z.elim)
          cases f with
          | ret u =>
            obtain ⟨v3, σ3, H3, S3, r3, q3⟩ := q
            exact ⟨_, _, _, S3.unsuite okX, r3, q3⟩
          | next =>
            obtain ⟨σ3, H3, S3, q3⟩ := q
            exact ⟨_, _, S3.unsuite okX, q3⟩
          | brk =>
            obtain ⟨σ3, H3, S3, q3⟩ := q
            exact ⟨_, _, S3.unsuite okX, q3⟩
          | cont =>
            obtain ⟨σ3, H3, S3, q3⟩ := q
            exact ⟨_, _, S3.unsuite okX, q3⟩
      | @named x y c ts i s0 su0 p1 p2 hs2 l2 n hi hl su r ih =>
        intro w'
        obtain ⟨b, e, yes, no⟩ := w'
        refine wpAny_handleBy_cons (codeAny_handlers_test (ask n e ?_)) (by intro z; cases z)
        cases b with
        | false => exact ih (no rfl)
        | true =>
          refine codeAny_handlers_suite_as (HandSPX.lands_againZ fl fun h2 fl2 u2 => ?_)
          obtain ⟨o2, v2, g2, z2, d2⟩ := fl2.there
          have J2 : Inv X pins σ1 H1 { t with heap := h2 } := J.landed nb fl2.1 ((up.trans ups).trans u2) os ag
          have S2 := J2.suite g2 d2 na f1 f2
          refine store_ok (X := X.suite a ((a, o2) :: (X.pn ++ pins))) (v := .ref a) S2 hN hi (.inl hl) rfl (fun t3 S3 => ?_) (.inr hl)
          refine wpAny_mono ((su a o2 cls d (X.pn ++ pins) z2 ⟨_, d2⟩).run [] t3 _ H1 _ S3 (yes rfl a na)) (fun f t4 q => ?_) (fun _ _ z => z.elim)
          have off : ∀ {σ4 : L2.St} {H4 : Hp} {R : Shared → Prop}, Inv (X.suite a ((a, o2) :: (X.pn ++ pins))) [] σ4 H4 t4 → (∀ t5, Inv X pins (σ4.set i none) H4 t5 → R t5) →
              wpAny (model X.prog X.w) X.A (do bindName X.env y .none; unbindBehindTheSuite X.env y p2) (fun _ t5 => R t5) X.xe t4 := fun S4 hR => gone_ok (S4.unsuite okX) hN hi hl hR
          cases f with
          | ret u =>
            obtain ⟨v4, σ4, H4, S4, r4, q4⟩ := q
            exact off S4 fun t5 J5 => ⟨_, _, _, J5, r4, q4⟩
          | next =>
            obtain ⟨σ4, H4, S4, q4⟩ := q
            exact off S4 fun t5 J5 => ⟨_, _, J5, q4⟩
          | brk =>
            obtain ⟨σ4, H4, S4, q4⟩ := q
            exact off S4 fun t5 J5 => ⟨_, _, J5, q4⟩
          | cont =>
            obtain ⟨σ4, H4, S4, q4⟩ := q
            exact off S4 fun t5 J5 => ⟨_, _, J5, q4⟩
    exact walk hh w
  · cases f with
    | ret u =>
      obtain ⟨v, σ1, H1, J, r, q⟩ := q
      exact ⟨v, σ1, H1, J.ofTry okX, r, q⟩
    | next =>
      obtain ⟨σ1, H1, J, q⟩ := q
      exact wpAny_execs_nil ⟨σ1, H1, J.ofTry okX, q⟩
    | brk =>
      obtain ⟨σ1, H1, J, q⟩ := q
      exact ⟨σ1, H1, J.ofTry okX, q⟩
    | cont =>
      obtain ⟨σ1, H1, J, q⟩ := q
      exact ⟨σ1, H1, J.ofTry okX, q⟩
end

/-! ### .. over the data -/
/-- a clause: the place of its name, which classes it takes, what its suite does -/
structure Hn where
  as : Option Nat
  m : List (Str × Bool)
  S : Exn → SM
def unS (o : SOut) : SOut := match o with
  | .exc _ _ => .bad
  | o => o
def offS (i : Nat) (o : SOut) : SOut := match o with
  | .nx ρ => .nx (ρ.set i none)
  | .bk ρ => .bk (ρ.set i none)
  | .ct ρ => .ct (ρ.set i none)
  | .rt s => .rt s
  | _ => .bad
def catchS : List Hn → Exn → SM
  | [], e, ρ => .exc e ρ
  | h :: hs, e, ρ => match h.m.lookup e.cls with
    | none => .bad
    | some false => catchS hs e ρ
    | some true => match h.as with
      | none => unS (h.S e ρ)
      | some i => if i < ρ.length then offS i (h.S e (ρ.set i none)) else .bad
def tryS (B : SM) (hs : List Hn) : SM := fun ρ => match B ρ with
  | .exc e ρ' => catchS hs e ρ'
  | o => o
/-- the context of a suite -/
def cS (c : Ct) (F0 : Hp) (o : Option Nat) (a : Addr) : Ct := { c with F0 := F0, W := fun _ _ _ _ => False, pp := match o with | none => c.pp | some i => some (i, .ref a) }
def SuD (X : Cx) (c : Ct) (o : Option Nat) (su : List Stmt) (S : Exn → SM) : Prop := ∀ (e : Exn) (F0 : Hp) (a : Addr) (oe : Obj) (cls : Value) (d : Option Addr) (pn : List (Addr × Obj)), Zc cls d oe → (∃ vs, oe.data = .fields vs) → XR c.K c.mg F0 F0 e cls d →
  PSs (X.suite a ((a, oe) :: pn)) su (tS (cS c F0 o a) (S e))
/-- the table of a clause is right -/
def TabOk (c : Ct) (m : List (Str × Bool)) (cv : Value) : Prop := ∀ n b, m.lookup n = some b → ∀ cls, c.mg n = some cls → PySem.W.exmOne c.K cls cv = some b
inductive HnOk (X : Cx) (c : Ct) : List ExceptHandler → List Hn → Prop
  | nil : HnOk X c [] []
  | plain {x : Str} {cv : Value} {m : List (Str × Bool)} {S : Exn → SM} {s0 : Stmt} {su : List Stmt} {p1 p2 : Pos} {hs : List ExceptHandler} {l : List Hn} (n : Names X x cv) (t : TabOk c m cv) (s : SuD X c none (s0 :: su) S) (r : HnOk X c hs l) :
      HnOk X c (.ExceptHandler (some (.Name x p1)) none (s0 :: su) p2 :: hs) (⟨none, m, S⟩ :: l)
  | named {x y : Str} {cv : Value} {m : List (Str × Bool)} {S : Exn → SM} {i : Nat} {s0 : Stmt} {su : List Stmt} {p1 p2 : Pos} {hs : List ExceptHandler} {l : List Hn} (n : Names X x cv) (hi : X.N[i]? = some y) (hl : X.env.kindOf y = some .local) (hp : c.pp = none) (t : TabOk c m cv) (s : SuD X c (some i) (s0 :: su) S) (r : HnOk X c hs l) :
      HnOk X c (.ExceptHandler (some (.Name x p1)) (some y) (s0 :: su) p2 :: hs) (⟨some i, m, S⟩ :: l)
def tsOf (c : Ct) (h : Hn) : SuT := fun a cls d D σ H => ∃ e F0, XR c.K c.mg F0 F0 e cls d ∧ tS (cS c F0 h.as a) (h.S e) D σ H
theorem XR.self {K : Fr} {mg : Str → Option Value} {F H : Hp} {e : Exn} {cls : Value} {d : Option Addr} (h : XR K mg F H e cls d) : XR K mg F F e cls d := h
theorem su_of {X : Cx} {c : Ct} {h : Hn} {su : List Stmt} (s : SuD X c h.as su h.S) : SuOk X su (tsOf c h) := fun a oe cls d pn z f =>
  ⟨fun pins t σ H D I ⟨e, F0, x, hw⟩ => (s e F0 a oe cls d pn z f x).run pins t σ H D I hw⟩
theorem hd_of {X : Cx} {c : Ct} {hs : List ExceptHandler} {l : List Hn} (h : HnOk X c hs l) : ∃ l', HdOk X hs l' ∧ ∀ (D : Ends) (e : Exn) (ρ : Env), c.K = X.K → SAft c (catchS l e ρ) D → ∀ σ F H cls d, SRc c F H σ ρ → XR c.K c.mg F H e cls d → wTry X.K c.W D l' cls d σ H := by
  induction h with
  | nil => exact ⟨[], .nil, fun D e ρ _ k σ F H cls d S x => k σ F H cls d S x⟩
  | @plain x cv m Sm s0 su p1 p2 hs l n t s r ih =>
    obtain ⟨l', ok, w⟩ := ih
    refine ⟨_, .plain n (su_of (h := ⟨none, m, Sm⟩) s) ok, fun D e ρ hk k σ F H cls d S x => ?_⟩
    unfold catchS at k
    cases q : m.lookup e.cls with
    | none => rw [q] at k; exact k.elim
    | some b =>
      rw [q] at k
      refine ⟨b, hk ▸ t _ _ q cls x.1, fun hb a na => ?_, fun hb => ?_⟩
      · subst hb
        dsimp only at k
        refine ⟨e, F, x.self, F, ρ, S.raise S.f0 (Sub.refl _), ?_⟩
        show SAft (cS c F none a) (Sm e ρ) D
        have low : ∀ {σ4 : L2.St} {F4 H4 : Hp} {ρ4 : Env}, SRc (cS c F none a) F4 H4 σ4 ρ4 → SRc c F4 H4 σ4 ρ4 := fun {σ4 F4 H4 ρ4} S4 => SR.lower (F1 := F) S4 S.f0 S.new
        cases q2 : Sm e ρ with
        | nx ρ3 => rw [q2] at k; exact fun σ4 F4 H4 S4 => k σ4 F4 H4 (low S4)
        | bk ρ3 => rw [q2] at k; exact fun σ4 F4 H4 S4 => k σ4 F4 H4 (low S4)
        | ct ρ3 => rw [q2] at k; exact fun σ4 F4 H4 S4 => k σ4 F4 H4 (low S4)
        | rt u => rw [q2] at k; exact fun v σ4 ρ4 F4 H4 S4 r4 => k v σ4 ρ4 F4 H4 (low S4) r4
        | exc y ρ3 => rw [q2] at k; exact k.elim
        | bad => rw [q2] at k; exact k.elim
      · subst hb
        exact w D e ρ hk k σ F H cls d S x
  | @named x y cv m Sm i s0 su p1 p2 hs l n hi hl hp t s r ih =>
    obtain ⟨l', ok, w⟩ := ih
    refine ⟨_, .named n hi hl (su_of (h := ⟨some i, m, Sm⟩) s) ok, fun D e ρ hk k σ F H cls d S x => ?_⟩
    unfold catchS at k
    cases q : m.lookup e.cls with
    | none => rw [q] at k; exact k.elim
    | some b =>
      rw [q] at k
      refine ⟨b, hk ▸ t _ _ q cls x.1, fun hb a na => ?_, fun hb => ?_⟩
      · subst hb
        dsimp only at k
        by_cases hlt : i < ρ.length
        · rw [if_pos hlt] at k
          have Sr : SR none c.K c.B F F H σ ρ := hp ▸ SR.raise S S.f0 (Sub.refl _)
          have Sf := Sr.forget i (o := some (.ref a)) Pin.free_no
          have Sp : SR (some (i, .ref a)) c.K c.B F F H (σ.set i (some (.ref a))) (ρ.set i none) := ⟨Sf.bh, Sf.fh, Sf.f0, Sf.new, Sf.len, Sf.sl, Sf.sep, fun j v e => by
            cases e
            rw [List.getElem?_set_self (by rw [S.len]; exact hlt)]⟩
          refine ⟨e, F, x.self, F, _, Sp, ?_⟩
          show SAft (cS c F (some i) a) (Sm e (ρ.set i none)) (goneE D i)
          have low : ∀ {σ4 : L2.St} {F4 H4 : Hp} {ρ4 : Env}, SRc (cS c F (some i) a) F4 H4 σ4 ρ4 → SRc c F4 H4 σ4 ρ4 := fun {σ4 F4 H4 ρ4} S4 => by
            have S5 : SR (some (i, .ref a)) c.K c.B c.F0 F4 H4 σ4 ρ4 := SR.lower (F1 := F) S4 S.f0 S.new
            have S6 : SR none c.K c.B c.F0 F4 H4 σ4 ρ4 := ⟨S5.bh, S5.fh, S5.f0, S5.new, S5.len, S5.sl, S5.sep, Pin.ok_no⟩
            show SR c.pp _ _ _ _ _ _ _
            rw [hp]
            exact S6
          have off : ∀ {σ4 : L2.St} {F4 H4 : Hp} {ρ4 : Env}, SRc (cS c F (some i) a) F4 H4 σ4 ρ4 → SRc c F4 H4 (σ4.set i none) (ρ4.set i none) := fun {σ4 F4 H4 ρ4} S4 => (low S4).forget i (by rw [hp]; exact Pin.free_no)
          cases q2 : Sm e (ρ.set i none) with
          | nx ρ3 => rw [q2] at k; exact fun σ4 F4 H4 S4 => k _ F4 H4 (off S4)
          | bk ρ3 => rw [q2] at k; exact fun σ4 F4 H4 S4 => k _ F4 H4 (off S4)
          | ct ρ3 => rw [q2] at k; exact fun σ4 F4 H4 S4 => k _ F4 H4 (off S4)
          | rt u => rw [q2] at k; exact fun v σ4 ρ4 F4 H4 S4 r4 => k v σ4 ρ4 F4 H4 (low S4) r4
          | exc y ρ3 => rw [q2] at k; exact k.elim
          | bad => rw [q2] at k; exact k.elim
        · rw [if_neg hlt] at k
          exact k.elim
      · subst hb
        exact w D e ρ hk k σ F H cls d S x
theorem s_try {X : Cx} {c : Ct} {B : SM} {body : List Stmt} {h0 : ExceptHandler} {hs : List ExceptHandler} {l : List Hn} {pos : Pos} (hk : c.K = X.K) (hN : X.N.Nodup) (tk : Takes X c.W) (hh : HnOk X c (h0 :: hs) l)
    (hb : ∀ (W' : WX) (pn : List (Addr × Obj)) (xe : Value → Shared → Prop), Takes (X.tr pn xe) W' → PassesOwn (model X.prog X.w) X.A X.env xe → PSs (X.tr pn xe) body (tS { c with W := W' } B))
    (hst : X.stack = X.env :: X.outer := by rfl) (hfm : X.env.frame = some X.env.locals := by rfl) : PS X (.Try body (h0 :: hs) [] [] pos) (tS c (tryS B l)) := by
  obtain ⟨l', ok, w⟩ := hd_of hh
  refine (ps_tryM hst hfm hN tk (tb := fun W' => tS { c with W := W' } B) hb ok).imp fun D σ H ⟨F, ρ, S, k⟩ => ⟨F, ρ, S, ?_⟩
  unfold tryS at k
  cases q : B ρ with
  | nx ρ1 => rw [q] at k; exact k
  | bk ρ1 => rw [q] at k; exact k
  | ct ρ1 => rw [q] at k; exact k
  | rt s => rw [q] at k; exact k
  | bad => rw [q] at k; exact k
  | exc e ρ1 => rw [q] at k; exact fun σ1 F1 H1 cls d S1 x1 => w D e ρ1 hk k σ1 F1 H1 cls d S1 x1

/-! ### raise of a class without fields -/
def raiseS (n : Str) : SM := fun ρ => .exc ⟨n, []⟩ ρ
section
variable {X : Cx} {c : Ct} {pos pos' p p2 : Pos} {x : Str} {m : Str} {j : Nat} {C : Addr} {B newId initId : String} {bmB : List Value}
theorem s_raise0 (tk : Takes X c.W) (hc : X.calm = true) (hM : c.mg = X.mg) (F : ExcBaseFacts B newId initId bmB) (q : PySem.W.excIn X.K C bmB newId = true) (gC : X.mg x = some (.ref C)) (kC : PySem.W.keepIn X.K (.ref C) = true) (r : Raises X (.ref C)) (hg : Gl X x)
    (hdb : (x == ("__debug__" : Str)) = false := by decide) : PS X (.Raise (some (.Call (.Name x p) [.Constant (.str m) j p2] [] pos)) none pos') (tS c (raiseS x)) :=
  (ps_raise hc tk (pmk_own F q gC kC r hg hdb)).imp fun D σ H ⟨F, ρ, S, k⟩ => k σ F H (.ref C) none S ⟨by rw [hM]; exact gC, .inl ⟨rfl, rfl⟩⟩
/-- what is never reached -/
def badS : SM := fun _ => .bad
theorem s_bad {s : Stmt} : PS X s (tS c badS) := ⟨fun _ _ _ _ _ _ ⟨_, _, _, k⟩ => k.elim⟩
def badE : M Slot := fun _ => .bad
theorem e_bad {e : Expr} : PE X e (tE c badE) := ⟨fun _ _ _ _ _ _ ⟨_, _, _, k⟩ => k.elim⟩
end
end PM
namespace PM
open PySem L2 PyProof.Rows
variable {pp : Pin}

/-! ### flat data; in -/
def flatD : D → Bool
  | .non => true | .bl _ => true | .int _ => true | .str _ => true
  | _ => false
def toV : D → V
  | .non => .non | .bl b => .bl b | .int i => .int i | .str s => .str (st s)
  | _ => .non
section
variable {K : Fr} {F H : Hp}
theorem flat_v {d : D} {v : V} (r : PkR K F H d v) (h : flatD d = true) : v = toV d := by
  cases d with
  | non => exact r
  | bl b => exact r
  | int i => exact r
  | str s => exact r
  | _ => cases h
theorem flat_V {d : D} (h : flatD d = true) : flatV (toV d) = true := by
  cases d with
  | non => rfl
  | bl b => rfl
  | int i => rfl
  | str s => rfl
  | _ => cases h
theorem flats_v : ∀ {ds : List D} {vs : List V}, Reps K F ds vs → ds.all flatD = true → vs = ds.map toV ∧ vs.all flatV = true
  | [], vs, r, _ => by rw [r.inv0]; exact ⟨rfl, rfl⟩
  | d :: ds, vs, r, h => by
    obtain ⟨v, w, rfl, r1, r2⟩ := r.inv
    rw [List.all_cons, Bool.and_eq_true] at h
    obtain ⟨e1, e2⟩ := flats_v r2 h.2
    have e : v = toV d := by
      cases d with
      | non => exact r1
      | bl b => exact r1
      | int i => exact r1
      | str s => exact r1
      | _ => cases h.1
    rw [e, e1]
    refine ⟨rfl, ?_⟩
    rw [List.all_cons, flat_V h.1, ← e1, e2]
    rfl
def memD : D → D → Option Bool
  | d, .lst ds => if flatD d && ds.all flatD then some (inV (toV d) (ds.map toV)) else none
  | d, .tup ds => if flatD d && ds.all flatD then some (inV (toV d) (ds.map toV)) else none
  | .str i, .str j => some (!(Builtin.Str.occurrences (st j) (st i) 0 (st j).length 1).isEmpty)
  | _, _ => none
def inD (d1 d2 : D) : Option Slot := (memD d1 d2).map fun b => (false, .bl b)
def notInD (d1 d2 : D) : Option Slot := (memD d1 d2).map fun b => (false, .bl (!b))
def rInS : R2 := fun x y H Q => ∃ i j, x = .str i ∧ y = .str j ∧ Q (.bl (!(Builtin.Str.occurrences j i 0 j.length 1).isEmpty)) H
def rNotInS : R2 := fun x y H Q => ∃ i j, x = .str i ∧ y = .str j ∧ Q (.bl (!(!(Builtin.Str.occurrences j i 0 j.length 1).isEmpty))) H
def rInA (K : Fr) : R2 := fun x y H Q => rIn K false x y H Q ∨ rInS x y H Q
def rNotInA (K : Fr) : R2 := fun x y H Q => rIn K true x y H Q ∨ rNotInS x y H Q
theorem op_inA {X : Cx} : OpR X (compareOp .In) (rInA X.K) := OpR.or op_in_seq (r' := rInS) op_in_str
theorem op_notInA {X : Cx} : OpR X (compareOp .NotIn) (rNotInA X.K) := OpR.or op_notIn_seq (r' := rNotInS) op_notIn_str
theorem memD_ok {d1 d2 : D} {x y : V} {b : Bool} {Q : Bool → Prop} (fh : Sub F H) (r1 : PkR K F H d1 x) (r2 : PkR K F H d2 y) (e : memD d1 d2 = some b) (q : Q b) :
    (∃ p xs, y = .ref p ∧ (SqL K H p xs ∨ SqT K H p xs) ∧ flatV x = true ∧ xs.all flatV = true ∧ Q (inV x xs)) ∨ (∃ i j, x = .str i ∧ y = .str j ∧ Q (!(Builtin.Str.occurrences j i 0 j.length 1).isEmpty)) := by
  unfold memD at e
  split at e
  · rename_i d ds
    split at e
    · rename_i hf
      cases e
      have hf := Bool.and_eq_true_iff.mp hf
      obtain ⟨a, vs, rfl, h1, k1⟩ := r2
      obtain ⟨e1, e2⟩ := flats_v k1 hf.2
      have e3 := flat_v r1 hf.1
      exact .inl ⟨a, vs, rfl, .inl (.inl h1), by rw [e3]; exact flat_V hf.1, e2, by rw [e3, e1]; exact q⟩
    · cases e
  · rename_i d ds
    split at e
    · rename_i hf
      cases e
      have hf := Bool.and_eq_true_iff.mp hf
      obtain ⟨a, vs, rfl, h1, k1⟩ := pkTup r2
      obtain ⟨e1, e2⟩ := flats_v k1 hf.2
      have e3 := flat_v r1 hf.1
      exact .inl ⟨a, vs, rfl, .inr (fh.sqT h1), by rw [e3]; exact flat_V hf.1, e2, by rw [e3, e1]; exact q⟩
    · cases e
  · cases e
    exact .inr ⟨_, _, r1, r2, q⟩
  · cases e
theorem ok_in : OpOk K inD (rInA K) := by
  intro F H d1 d2 x y s Q fh r1 r2 e k
  unfold inD at e
  cases q : memD d1 d2 with
  | none => rw [q] at e; cases e
  | some b =>
    rw [q] at e
    cases e
    rcases memD_ok (Q := fun b => Q (.bl b) H) fh r1 r2 q (vnB fh k) with ⟨p, xs, h⟩ | h
    · exact .inl ⟨p, xs, h⟩
    · exact .inr h
theorem ok_notIn : OpOk K notInD (rNotInA K) := by
  intro F H d1 d2 x y s Q fh r1 r2 e k
  unfold notInD at e
  cases q : memD d1 d2 with
  | none => rw [q] at e; cases e
  | some b =>
    rw [q] at e
    cases e
    rcases memD_ok (Q := fun b => Q (.bl (!b)) H) fh r1 r2 q (vnB fh k) with ⟨p, xs, h⟩ | h
    · exact .inl ⟨p, xs, h⟩
    · exact .inr h
end
theorem e_in {X : Cx} {c : Ct} {a b : Expr} {pos : Pos} {op : CmpOp} {f : D → D → Option Slot} {r : R2} {A1 A2 : M D} (ho : OpR X (compareOp op) r) (ok : OpOk c.K f r) (ha : PE X a (tP c A1)) (hb : PE X b (tP c A2)) (hm : behindInMarks op b = false := by rfl) : PE X (.Compare a [op] [b] pos) (tE c (bin f A1 A2)) := e_cmp ho ok ha hb hm
/-! ### built-in calls -/
section
variable {K : Fr} {F H : Hp}
def intsD : List D → Option (List Int)
  | [] => some []
  | .int i :: r => (intsD r).map fun q => i :: q
  | _ => none
def blsD : List D → Option (List Bool)
  | [] => some []
  | .bl i :: r => (blsD r).map fun q => i :: q
  | _ => none
theorem intsD_reps : ∀ {xs : List D} {vs : List V} {ys : List Int}, Reps K F xs vs → intsD xs = some ys → vs = ys.map V.int
  | [], vs, ys, r, e => by cases e; exact r.inv0
  | d :: xs, vs, ys, r, e => by
    cases d with
    | int s =>
      obtain ⟨v, w, rfl, r1, r2⟩ := r.inv
      unfold intsD at e
      cases q : intsD xs with
      | none => rw [q] at e; cases e
      | some zs =>
        rw [q] at e
        cases e
        have r1 : v = .int s := r1
        rw [r1, intsD_reps r2 q]
        rfl
    | _ => cases e
theorem blsD_reps : ∀ {xs : List D} {vs : List V} {ys : List Bool}, Reps K F xs vs → blsD xs = some ys → vs = ys.map V.bl
  | [], vs, ys, r, e => by cases e; exact r.inv0
  | d :: xs, vs, ys, r, e => by
    cases d with
    | bl s =>
      obtain ⟨v, w, rfl, r1, r2⟩ := r.inv
      unfold blsD at e
      cases q : blsD xs with
      | none => rw [q] at e; cases e
      | some zs =>
        rw [q] at e
        cases e
        have r1 : v = .bl s := r1
        rw [r1, blsD_reps r2 q]
        rfl
    | _ => cases e
def sumD : List D → Option Slot
  | [.lst xs] => (intsD xs).map fun ns => (false, .int ns.sum)
  | _ => none
theorem ok_sum : CallOk K sumD (rSum K) := by
  intro F H ds xs s Q fh r e k
  unfold sumD at e
  split at e
  · rename_i ys
    cases q : intsD ys with
    | none => rw [q] at e; cases e
    | some ns =>
      rw [q] at e
      cases e
      obtain ⟨x, rfl, a, vs, rfl, h1, k1⟩ := r.one
      have := intsD_reps k1 q
      subst this
      exact ⟨a, ns, rfl, .inl h1, vnI fh k⟩
  · cases e
def allD : List D → Option Slot
  | [.lst xs] => (blsD xs).map fun ns => (false, .bl (ns.all id))
  | _ => none
def anyD : List D → Option Slot
  | [.lst xs] => (blsD xs).map fun ns => (false, .bl (ns.any id))
  | _ => none
theorem ok_all : CallOk K allD (rAll K) := by
  intro F H ds xs s Q fh r e k
  unfold allD at e
  split at e
  · rename_i ys
    cases q : blsD ys with
    | none => rw [q] at e; cases e
    | some ns =>
      rw [q] at e
      cases e
      obtain ⟨x, rfl, a, vs, rfl, h1, k1⟩ := r.one
      have := blsD_reps k1 q
      subst this
      exact ⟨a, ns, rfl, .inl h1, vnB fh k⟩
  · cases e
theorem ok_any : CallOk K anyD (rAny K) := by
  intro F H ds xs s Q fh r e k
  unfold anyD at e
  split at e
  · rename_i ys
    cases q : blsD ys with
    | none => rw [q] at e; cases e
    | some ns =>
      rw [q] at e
      cases e
      obtain ⟨x, rfl, a, vs, rfl, h1, k1⟩ := r.one
      have := blsD_reps k1 q
      subst this
      exact ⟨a, ns, rfl, .inl h1, vnB fh k⟩
  · cases e
/-- the greatest, the least of a list of ints -/
def maxI : List Int → Option Int
  | [] => none
  | i :: r => some (r.foldl max i)
def minI : List Int → Option Int
  | [] => none
  | i :: r => some (r.foldl min i)
theorem foldl_max : ∀ (r : List Int) (i m : Int), m ∈ i :: r → (∀ y ∈ i :: r, y ≤ m) → r.foldl max i = m
  | [], i, m, h, _ => by simpa using (List.mem_singleton.mp h).symm
  | j :: r, i, m, h, h2 => by
    rw [List.foldl_cons]
    refine foldl_max r (max i j) m ?_ fun y hy => ?_
    · rcases List.mem_cons.mp h with e | h
      · subst e
        have := h2 j (List.mem_cons_of_mem _ List.mem_cons_self)
        rw [show max m j = m by omega]
        exact List.mem_cons_self
      · rcases List.mem_cons.mp h with e | h
        · subst e
          have := h2 i List.mem_cons_self
          rw [show max i m = m by omega]
          exact List.mem_cons_self
        · exact List.mem_cons_of_mem _ h
    · rcases List.mem_cons.mp hy with e | hy
      · have h3 := h2 i List.mem_cons_self
        have h4 := h2 j (List.mem_cons_of_mem _ List.mem_cons_self)
        omega
      · exact h2 y (List.mem_cons_of_mem _ (List.mem_cons_of_mem _ hy))
theorem foldl_min : ∀ (r : List Int) (i m : Int), m ∈ i :: r → (∀ y ∈ i :: r, m ≤ y) → r.foldl min i = m
  | [], i, m, h, _ => by simpa using (List.mem_singleton.mp h).symm
  | j :: r, i, m, h, h2 => by
    rw [List.foldl_cons]
    refine foldl_min r (min i j) m ?_ fun y hy => ?_
    · rcases List.mem_cons.mp h with e | h
      · subst e
        have := h2 j (List.mem_cons_of_mem _ List.mem_cons_self)
        rw [show min m j = m by omega]
        exact List.mem_cons_self
      · rcases List.mem_cons.mp h with e | h
        · subst e
          have := h2 i List.mem_cons_self
          rw [show min i m = m by omega]
          exact List.mem_cons_self
        · exact List.mem_cons_of_mem _ h
    · rcases List.mem_cons.mp hy with e | hy
      · have h3 := h2 i List.mem_cons_self
        have h4 := h2 j (List.mem_cons_of_mem _ List.mem_cons_self)
        omega
      · exact h2 y (List.mem_cons_of_mem _ (List.mem_cons_of_mem _ hy))
def maxD : List D → Option Slot
  | [.lst xs] => ((intsD xs).bind maxI).map fun m => (false, .int m)
  | [.int i, .int j] => some (false, .int (if j > i then j else i))
  | _ => none
def minD : List D → Option Slot
  | [.lst xs] => ((intsD xs).bind minI).map fun m => (false, .int m)
  | [.int i, .int j] => some (false, .int (if j < i then j else i))
  | _ => none
def rMaxA (K : Fr) : List V → Hp → VK → Prop := fun xs H Q => rMax K xs H Q ∨ ∃ i j, xs = [.int i, .int j] ∧ Q (.int (if j > i then j else i)) H
def rMinA (K : Fr) : List V → Hp → VK → Prop := fun xs H Q => rMin K xs H Q ∨ ∃ i j, xs = [.int i, .int j] ∧ Q (.int (if j < i then j else i)) H
theorem callR_or {X : Cx} {u : Value} {r r' : List V → Hp → VK → Prop} (h : CallR X u r) (h' : CallR X u r') : CallR X u (fun xs H Q => r xs H Q ∨ r' xs H Q) := fun pins s σ H xs us Q I rx q => by
  rcases q with q | q
  · exact h pins s σ H xs us Q I rx q
  · exact h' pins s σ H xs us Q I rx q
theorem op_maxA {X : Cx} (hc : X.calm = true) : CallR X (.builtin "max") (rMaxA X.K) := callR_or (cr_max hc) (call_max2 hc)
theorem op_minA {X : Cx} (hc : X.calm = true) : CallR X (.builtin "min") (rMinA X.K) := callR_or (cr_min hc) (call_min2 hc)
theorem ok_max : CallOk K maxD (rMaxA K) := by
  intro F H ds xs s Q fh r e k
  unfold maxD at e
  split at e
  · rename_i ys
    cases q : intsD ys with
    | none => rw [q] at e; cases e
    | some ns =>
      rw [q] at e
      cases ns with
      | nil => cases e
      | cons n ns =>
        cases e
        obtain ⟨x, rfl, a, vs, rfl, h1, k1⟩ := r.one
        have := intsD_reps k1 q
        subst this
        exact .inl ⟨a, n :: ns, rfl, .inl h1, Nat.succ_pos _, fun m hm h2 => by rw [← foldl_max ns n m hm h2]; exact vnI fh k⟩
  · cases e
    obtain ⟨x, y, rfl, r1, r2⟩ := r.two
    have r1 : x = .int _ := r1
    have r2 : y = .int _ := r2
    subst r1; subst r2
    exact .inr ⟨_, _, rfl, vnI fh k⟩
  · cases e
theorem ok_min : CallOk K minD (rMinA K) := by
  intro F H ds xs s Q fh r e k
  unfold minD at e
  split at e
  · rename_i ys
    cases q : intsD ys with
    | none => rw [q] at e; cases e
    | some ns =>
      rw [q] at e
      cases ns with
      | nil => cases e
      | cons n ns =>
        cases e
        obtain ⟨x, rfl, a, vs, rfl, h1, k1⟩ := r.one
        have := intsD_reps k1 q
        subst this
        exact .inl ⟨a, n :: ns, rfl, .inl h1, Nat.succ_pos _, fun m hm h2 => by rw [← foldl_min ns n m hm h2]; exact vnI fh k⟩
  · cases e
    obtain ⟨x, y, rfl, r1, r2⟩ := r.two
    have r1 : x = .int _ := r1
    have r2 : y = .int _ := r2
    subst r1; subst r2
    exact .inr ⟨_, _, rfl, vnI fh k⟩
  · cases e
def absD : List D → Option Slot
  | [.int i] => some (false, .int (if i < 0 then -i else i))
  | _ => none
def rAbs : List V → Hp → VK → Prop := fun xs H Q => ∃ i, xs = [.int i] ∧ Q (.int (if i < 0 then -i else i)) H
theorem op_abs {X : Cx} : CallR X (.builtin "abs") rAbs := call_abs
theorem ok_abs : CallOk K absD rAbs := by
  intro F H ds xs s Q fh r e k
  unfold absD at e
  split at e
  · cases e
    obtain ⟨x, rfl, r1⟩ := r.one
    have r1 : x = .int _ := r1
    subst r1
    exact ⟨_, rfl, vnI fh k⟩
  · cases e
def gcdD : List D → Option Slot
  | [.int i, .int j] => some (false, .int ((Nat.gcd i.natAbs j.natAbs : Nat) : Int))
  | _ => none
theorem ok_gcd : CallOk K gcdD rGcd := by
  intro F H ds xs s Q fh r e k
  unfold gcdD at e
  split at e
  · cases e
    obtain ⟨x, y, rfl, r1, r2⟩ := r.two
    have r1 : x = .int _ := r1
    have r2 : y = .int _ := r2
    subst r1; subst r2
    exact ⟨_, _, rfl, vnI fh k⟩
  · cases e
/-- sorted(xs) of ints -/
def sortI (ns : List Int) : List Int := ns.mergeSort (fun a b => decide (a ≤ b))
end
section
variable {X : Cx} {c : Ct} {e o : Expr} {es : List Expr} {pos p apos : Pos} {x : Str}
/-- a module's name for a built-in function -/
theorem e_bfn {id : String} {f : List D → Option Slot} {r : List V → Hp → VK → Prop} {R : M (List D)} (hc : CallR X (.builtin id) r) (ok : CallOk c.K f r) (hg : Gl X x) (hm : X.mg x = some (.builtin id)) (ha : PA X (e :: es) (tPs c R)) (hdb : (x == ("__debug__" : Str)) = false := by decide)
    (he : starEach (e :: es) X.env = (false, eval e X.env) :: starEach es X.env := by rfl) (hpl : (backTo pos (starEach es X.env)).any (·.1) = false := by rfl) : PE X (.Call (.Name x p) (e :: es) [] pos) (tE c (blt f R)) :=
  (pe_callBfun hc hg hm ha hdb he hpl).imp fun _ _ _ h => cb_tr ok h
/-- x.bit_length() -/
def bitsD : D → Option Slot
  | .int i => some (false, .int (Builtin.Int.intBits i : Nat))
  | _ => none
theorem e_bits {A : M D} (ho : PE X o (tP c A)) (hbase : attributeBase o "bit_length" X.env (eval o X.env) = eval o X.env := by rfl) (hline : (apos.endLine == pos.line) = true := by rfl) : PE X (.Call (.Attribute o "bit_length" apos) [] [] pos) (tE c (una bitsD A)) := by
  refine (pe_bits ho hbase hline).imp fun σ H Q ⟨F, ρ, S, k⟩ => ⟨F, ρ, S, k.step fun d ρ1 v F1 H1 S1 r1 f1 h1 a1 => ?_⟩
  obtain ⟨s, e, k⟩ := a1.lift S1
  unfold bitsD at e
  split at e
  · cases e
    exact ⟨_, r1, vnI S1.fh k⟩
  · cases e
end
end PM
namespace PM
open PySem L2 PyProof.Rows
variable {pp : Pin}

/-! ### what an exception's class must say -/
structure XCls (K : Fr) (C : Addr) : Prop where
  hcl : (PySem.W.clsIn K C).isSome = true
  hga : PySem.W.findIn K (.ref C) "__getattribute__" = some (some (.builtin "BaseException.__getattribute__"))
  hgt : PySem.W.findIn K (.ref C) "__getattr__" = some none
  hsub : PySem.W.subIn K (.ref C) (.type "BaseException") = some true
  ha : PySem.W.findIn K (.ref C) "__class__" = some (some (.builtin "object.__class__"))
  hn : PySem.W.specialIn K (.builtin "object.__class__") "__get__" = some (some (.builtin "getset_descriptor.__get__"))
  htk : PySem.W.takesIn K (.builtin "object.__class__") = some true
  hm : PySem.W.mroIn K C (.type "object") = some true
def xclsB (K : Fr) (C : Addr) : Bool := (PySem.W.clsIn K C).isSome && (decide (PySem.W.findIn K (.ref C) "__getattribute__" = some (some (.builtin "BaseException.__getattribute__"))) && (decide (PySem.W.findIn K (.ref C) "__getattr__" = some none) &&
  (decide (PySem.W.subIn K (.ref C) (.type "BaseException") = some true) && (decide (PySem.W.findIn K (.ref C) "__class__" = some (some (.builtin "object.__class__"))) && (decide (PySem.W.specialIn K (.builtin "object.__class__") "__get__" = some (some (.builtin "getset_descriptor.__get__"))) &&
  (decide (PySem.W.takesIn K (.builtin "object.__class__") = some true) && decide (PySem.W.mroIn K C (.type "object") = some true)))))))
theorem ba2 {a b : Bool} (h : (a && b) = true) : a = true ∧ b = true := Bool.and_eq_true_iff.mp h
theorem xclsB_ok {K : Fr} {C : Addr} (h : xclsB K C = true) : XCls K C := by
  obtain ⟨h1, h⟩ := ba2 h
  obtain ⟨h2, h⟩ := ba2 h
  obtain ⟨h3, h⟩ := ba2 h
  obtain ⟨h4, h⟩ := ba2 h
  obtain ⟨h5, h⟩ := ba2 h
  obtain ⟨h6, h⟩ := ba2 h
  obtain ⟨h7, h8⟩ := ba2 h
  exact ⟨h1, of_decide_eq_true h2, of_decide_eq_true h3, of_decide_eq_true h4, of_decide_eq_true h5, of_decide_eq_true h6, of_decide_eq_true h7, of_decide_eq_true h8⟩
/-- isinstance(e, c), isinstance(e, (c, ..)) of the exception that is handled -/
def dOk (d : Option Addr) (H : Hp) : Prop := d = none ∨ ∃ dx fs, d = some dx ∧ H dx = some (.xd fs)
def rIsX (K : Fr) (C a : Addr) (d : Option Addr) : List V → Hp → VK → Prop := fun xs H Q => dOk d H ∧ ((∃ (c : V) (cv : Value) (b : Bool), xs = [.ref a, c] ∧ (∀ u, RelV c u → u = cv) ∧ PySem.W.kitOne K (.ref C) cv = some b ∧ Q (.bl b) H) ∨
  ∃ (tp : Addr) (cs : List V) (us : List Value) (b : Bool), xs = [.ref a, .ref tp] ∧ H tp = some (.tup cs) ∧ Paired ClsV cs us ∧ PySem.W.kitAny K (.ref C) us = some b ∧ Q (.bl b) H)
theorem call_isX {X : Cx} {a C : Addr} {d : Option Addr} {oe : Obj} {pn : List (Addr × Obj)} (T : XCls X.K C) (hz : Zc (.ref C) d oe) (hf : ∃ vs, oe.data = .fields vs) : CallR (X.suite a ((a, oe) :: pn)) (.builtin "isinstance") (rIsX X.K C a d) := by
  intro pins s σ H xs us Q I r h
  obtain ⟨hd, h⟩ := h
  obtain ⟨ge, _⟩ := I.pin (a, oe) (List.mem_append_left _ List.mem_cons_self)
  obtain ⟨vs, hv⟩ := hf
  have J : ∃ od, PySem.W.InstAt s.heap a oe C od := by
    obtain ⟨oc, od, oda, osl⟩ := oe
    obtain ⟨h1, h2⟩ := hz
    dsimp only at h1 h2 hv
    subst h1 hv
    rcases hd with rfl | ⟨dx, fs, rfl, hx⟩
    · subst h2
      exact ⟨none, ge, rfl, rfl, trivial⟩
    · subst h2
      have hx2 : ObjOk X.prog X.w H s.heap dx (.xd fs) := I.hok dx _ hx
      obtain ⟨mA, hns, _⟩ := hx2
      obtain ⟨o, es, ep, ho, _⟩ := hns
      exact ⟨some o, ge, rfl, rfl, ho⟩
  obtain ⟨od, J⟩ := J
  have Z := PySem.W.kitx_exc (x := a) (ox := oe) (od := od) T.hcl T.hga T.hgt T.hsub T.ha T.hn T.htk T.hm
  rcases h with ⟨c, cv, b, rfl, hcv, e, q⟩ | ⟨tp, cs, ws, b, rfl, hT, k, e, q⟩
  · obtain ⟨u1, u2, rfl, r1, r2⟩ := vals2 r
    cases (show u1 = Value.ref a from r1)
    rw [hcv _ r2]
    exact PySem.W.kia_one Z I.kIn J e (fun z => nomatch z) fun tk => ⟨.bl b, H, I.tok tk, rfl, q⟩
  · obtain ⟨u1, u2, rfl, r1, r2⟩ := vals2 r
    cases (show u1 = Value.ref a from r1)
    cases (show u2 = Value.ref tp from r2)
    obtain ⟨_, its, rv, o, h1, h2, n, h3⟩ := (show ObjOk X.prog X.w H s.heap tp (.tup cs) from I.hok tp _ hT)
    have e3 := ClsV.all k rv
    subst e3
    obtain ⟨oc, od2, dt, sl⟩ := o
    simp only at h2 h3
    subst h2 h3
    exact PySem.W.kia_tup Z I.kIn J h1 e (fun z => nomatch z) fun tk => ⟨.bl b, H, I.tok tk, rfl, q⟩
/-- a table over the names of classes -/
def isE (t : List (Str × Bool)) (e : Exn) : M Slot := M.lift ((t.lookup e.cls).map fun b => (false, .bl b))
def TabP (P : Str → Bool → Prop) (m : List (Str × Bool)) : Prop := ∀ n b, m.lookup n = some b → P n b
theorem tab_nil {P : Str → Bool → Prop} : TabP P [] := fun n b h => by cases h
theorem tab_cons {P : Str → Bool → Prop} {n : Str} {b : Bool} {m : List (Str × Bool)} (h : P n b) (r : TabP P m) : TabP P ((n, b) :: m) := fun n' b' e => by
  rw [List.lookup_cons] at e
  split at e
  · rename_i q
    cases e
    have := eq_of_beq q
    subst this
    exact h
  · exact r n' b' e
/-- what isinstance(e, cv) says of an exception of the class n -/
def IsP (c : Ct) (cv : Value) (n : Str) (b : Bool) : Prop := ∃ C, c.mg n = some (.ref C) ∧ XCls c.K C ∧ PySem.W.kitOne c.K (.ref C) cv = some b
def IsPs (c : Ct) (cvs : List Value) (n : Str) (b : Bool) : Prop := ∃ C, c.mg n = some (.ref C) ∧ XCls c.K C ∧ PySem.W.kitAny c.K (.ref C) cvs = some b
theorem XR.dok {K : Fr} {mg : Str → Option Value} {F H F0 : Hp} {e : Exn} {cls : Value} {d : Option Addr} (h : XR K mg F0 F0 e cls d) (f : Sub F0 F) (fh : Sub F H) : dOk d H := by
  rcases h.2 with ⟨_, h2⟩ | ⟨dx, vs, h2, h3, _⟩
  · exact .inl h2
  · exact .inr ⟨dx, _, h2, fh _ _ (f _ _ h3)⟩
section
variable {X : Cx} {c : Ct} {F0 : Hp} {i : Nat} {a : Addr} {oe : Obj} {cls : Value} {d : Option Addr} {pn : List (Addr × Obj)} {e : Exn} {y x : Str} {p p1 p2 pos : Pos} {t : List (Str × Bool)} {cv : Value} {v : V}
theorem e_isE (hz : Zc cls d oe) (hf : ∃ vs, oe.data = .fields vs) (hx : XR c.K c.mg F0 F0 e cls d) (hK : c.K = X.K) (T : TabP (IsP c cv) t)
    (hg : Gl (X.suite a ((a, oe) :: pn)) "isinstance") (hm : X.mg "isinstance" = none) (he : PE (X.suite a ((a, oe) :: pn)) (.Name y p1) (tVar i)) (hc : PE (X.suite a ((a, oe) :: pn)) (.Name x p2) (tC v)) (hv : ∀ u, RelV v u → u = cv) :
    PE (X.suite a ((a, oe) :: pn)) (.Call (.Name "isinstance" p) [.Name y p1, .Name x p2] [] pos) (tE (cS c F0 (some i) a) (isE t e)) := by
  by_cases hl : ∃ b, t.lookup e.cls = some b
  · obtain ⟨b, hl⟩ := hl
    obtain ⟨C, hC, XC, hk⟩ := T _ _ hl
    have e1 := hx.1.symm.trans hC
    cases e1
    refine (pe_callB (call_isX (X := X) (hK ▸ XC) hz hf) hg hm (by decide +kernel) (pa_cons he (pa_cons hc pa_nil))).imp fun σ H Q ⟨F, ρ, S, k⟩ => ?_
    have hd : dOk d H := hx.dok S.f0 S.fh
    refine ⟨.ref a, S.pk i _ rfl, hd, .inl ⟨v, cv, b, rfl, hv, hK ▸ hk, ?_⟩⟩
    unfold isE at k
    rw [hl] at k
    exact k (.bl b) F H S (Sub.refl _) (Sub.refl _) ⟨rfl, fun z => by cases z⟩
  · refine ⟨fun pins s σ H Q I ⟨F, ρ, S, k⟩ => ?_⟩
    unfold isE at k
    cases q : t.lookup e.cls with
    | none => rw [q] at k; exact k.elim
    | some b => exact absurd ⟨b, q⟩ hl
/-- .. a tuple of classes -/
theorem e_isEs {es : List Expr} {vs : List V} {cvs : List Value} {kk : Nat} (hz : Zc cls d oe) (hf : ∃ vs, oe.data = .fields vs) (hx : XR c.K c.mg F0 F0 e cls d) (hK : c.K = X.K) (T : TabP (IsPs c cvs) t)
    (hg : Gl (X.suite a ((a, oe) :: pn)) "isinstance") (hm : X.mg "isinstance" = none) (he : PE (X.suite a ((a, oe) :: pn)) (.Name y p1) (tVar i)) (hc : PA (X.suite a ((a, oe) :: pn)) es (fun _ H Q => Q vs H)) (hv : Paired ClsV vs cvs) (hl1 : vs.length ≤ sizeLine) (hl0 : vs ≠ []) :
    PE (X.suite a ((a, oe) :: pn)) (.Call (.Name "isinstance" p) [.Name y p1, .Tuple es kk p2] [] pos) (tE (cS c F0 (some i) a) (isE t e)) := by
  by_cases hl : ∃ b, t.lookup e.cls = some b
  · obtain ⟨b, hl⟩ := hl
    obtain ⟨C, hC, XC, hk⟩ := T _ _ hl
    have e1 := hx.1.symm.trans hC
    cases e1
    refine (pe_callB (call_isX (X := X) (hK ▸ XC) hz hf) hg hm (by decide +kernel) (pa_cons he (pa_cons (pe_tup hc) pa_nil))).imp fun σ H Q ⟨F, ρ, S, k⟩ => ?_
    refine ⟨.ref a, S.pk i _ rfl, hl1, fun p hp => ?_⟩
    have g := growT (o := .tup vs) S.fh hp
    have S2 := S.grow g
    have hd : dOk d (upd H p (.tup vs)) := hx.dok S2.f0 S2.fh
    refine ⟨hd, .inr ⟨p, vs, cvs, b, rfl, upd_same, hv, hK ▸ hk, ?_⟩⟩
    unfold isE at k
    rw [hl] at k
    exact k (.bl b) _ _ S2 g.f g.h ⟨rfl, fun z => by cases z⟩
  · refine ⟨fun pins s σ H Q I ⟨F, ρ, S, k⟩ => ?_⟩
    unfold isE at k
    cases q : t.lookup e.cls with
    | none => rw [q] at k; exact k.elim
    | some b => exact absurd ⟨b, q⟩ hl
end
/-- facts of a class, by name -/
def clsB (K : Fr) (n : Str) : Bool := decide (PySem.W.nsIn K mainGlobals n = some (some (.ref (He.ga K n)))) && xclsB K (He.ga K n)
def kitB1 (K : Fr) (n m : Str) (b : Bool) : Bool := decide (PySem.W.kitOne K (.ref (He.ga K n)) (.ref (He.ga K m)) = some b)
def kitBT (K : Fr) (n : Str) (T : String) (b : Bool) : Bool := decide (PySem.W.kitOne K (.ref (He.ga K n)) (.type T) = some b)
def exmB (K : Fr) (n m : Str) (b : Bool) : Bool := decide (PySem.W.exmOne K (.ref (He.ga K n)) (.ref (He.ga K m)) = some b)
def exmBT (K : Fr) (n : Str) (T : String) (b : Bool) : Bool := decide (PySem.W.exmOne K (.ref (He.ga K n)) (.type T) = some b)
def bfnB (K : Fr) (n : Str) (id : String) : Bool := decide (PySem.W.nsIn K mainGlobals n = some (some (.builtin id)))
section
variable {K : Fr} {h : Heap} {mg : Str → Option Value}
theorem clsB_ok (X : K.In h) (G : h.Ns mainGlobals mg) {n : Str} (c : clsB K n = true) : mg n = some (.ref (He.ga K n)) ∧ XCls K (He.ga K n) := by
  obtain ⟨h1, h2⟩ := ba2 c
  exact ⟨PySem.W.mg_of X G (of_decide_eq_true h1), xclsB_ok h2⟩
theorem bfnB_ok (X : K.In h) (G : h.Ns mainGlobals mg) {n : Str} {id : String} (c : bfnB K n id = true) : mg n = some (.builtin id) := PySem.W.mg_of X G (of_decide_eq_true c)
end
theorem IsP.one {c : Ct} {n m : Str} {b : Bool} (h1 : c.mg n = some (.ref (He.ga c.K n)) ∧ XCls c.K (He.ga c.K n)) (h2 : kitB1 c.K n m b = true) : IsP c (.ref (He.ga c.K m)) n b := ⟨_, h1.1, h1.2, of_decide_eq_true h2⟩
theorem IsP.typ {c : Ct} {n : Str} {T : String} {b : Bool} (h1 : c.mg n = some (.ref (He.ga c.K n)) ∧ XCls c.K (He.ga c.K n)) (h2 : kitBT c.K n T b = true) : IsP c (.type T) n b := ⟨_, h1.1, h1.2, of_decide_eq_true h2⟩
theorem ExP.one {c : Ct} {n m : Str} {b : Bool} (h1 : c.mg n = some (.ref (He.ga c.K n)) ∧ XCls c.K (He.ga c.K n)) (h2 : exmB c.K n m b = true) : ∀ cls, c.mg n = some cls → PySem.W.exmOne c.K cls (.ref (He.ga c.K m)) = some b := fun cls h => by
  rw [h1.1] at h
  cases h
  exact of_decide_eq_true h2
/-- the Hook with more facts -/
def obsN (n : Nat) (fa : List He.Fa) (fn : List He.DefD) (ex : Fr → Bool) (g : Addr → Option Obj) : AlM := (He.obsD fa fn (He.frG g (He.asD g n)), noLst (He.frG g (He.asD g n)) && ex (He.frG g (He.asD g n)))
def hookN (n : Nat) (fa : List He.Fa) (fn : List He.DefD) (ex : Fr → Bool) : PySem.W.Hook where
  α := AlM
  obs := fun s => obsN n fa fn ex s.heap.get?
  val := fun _ => (He.valD fn, true)
  says := fun _ h => ∃ K : PySem.W.Frag, K.In h ∧ He.SaysD fa fn K ∧ noLst K = true ∧ ex K = true
  of := fun _ _ e => ⟨_, He.frG_in, congrArg (fun z : AlM => z.1) e, (ba2 (congrArg (fun z : AlM => z.2) e)).1, (ba2 (congrArg (fun z : AlM => z.2) e)).2⟩
  keeps := fun _ _ _ ⟨K, hK, c⟩ k => ⟨K, PySem.W.Frag.In.keeps hK k, c⟩
theorem obsN_eq {n : Nat} {fa : List He.Fa} {fn : List He.DefD} {ex : Fr → Bool} {g : Addr → Option Obj} {s : Shared} (h : ∀ a, g a = s.heap.get? a) : obsN n fa fn ex g = (hookN n fa fn ex).obs s := by
  have e : g = s.heap.get? := funext h
  rw [e] <;> rfl

theorem tabE_nil {c : Ct} {cv : Value} : TabOk c [] cv := tab_nil
theorem tabE_cons {c : Ct} {cv : Value} {n : Str} {b : Bool} {m : List (Str × Bool)} (h : ∀ cls, c.mg n = some cls → PySem.W.exmOne c.K cls cv = some b) (r : TabOk c m cv) : TabOk c ((n, b) :: m) cv :=
  tab_cons (P := fun n b => ∀ cls, c.mg n = some cls → PySem.W.exmOne c.K cls cv = some b) h r
theorem tabI_nil {c : Ct} {cv : Value} : TabP (IsP c cv) [] := tab_nil
theorem tabI_cons {c : Ct} {cv : Value} {n : Str} {b : Bool} {m : List (Str × Bool)} (h : IsP c cv n b) (r : TabP (IsP c cv) m) : TabP (IsP c cv) ((n, b) :: m) := tab_cons h r
theorem tabJ_nil {c : Ct} {cv : List Value} : TabP (IsPs c cv) [] := tab_nil
theorem tabJ_cons {c : Ct} {cv : List Value} {n : Str} {b : Bool} {m : List (Str × Bool)} (h : IsPs c cv n b) (r : TabP (IsPs c cv) m) : TabP (IsPs c cv) ((n, b) :: m) := tab_cons h r
/-- several classes, one after the other -/
def KitP (K : Fr) (n : Str) (cv : Value) (b : Bool) : Prop := PySem.W.kitOne K (.ref (He.ga K n)) cv = some b
theorem kitP1 {K : Fr} {n m : Str} {b : Bool} (h : kitB1 K n m b = true) : KitP K n (.ref (He.ga K m)) b := of_decide_eq_true (p := PySem.W.kitOne K _ _ = some b) h
theorem kitPT {K : Fr} {n : Str} {T : String} {b : Bool} (h : kitBT K n T b = true) : KitP K n (.type T) b := of_decide_eq_true (p := PySem.W.kitOne K _ _ = some b) h
theorem any_nil {K : Fr} {n : Str} : PySem.W.kitAny K (.ref (He.ga K n)) [] = some false := rfl
theorem any_yes {K : Fr} {n : Str} {cv : Value} {cvs : List Value} (h : KitP K n cv true) : PySem.W.kitAny K (.ref (He.ga K n)) (cv :: cvs) = some true := kitAny_cons h (fun z => by cases z) fun _ => rfl
theorem any_no {K : Fr} {n : Str} {cv : Value} {cvs : List Value} {b : Bool} (h : KitP K n cv false) (r : PySem.W.kitAny K (.ref (He.ga K n)) cvs = some b) : PySem.W.kitAny K (.ref (He.ga K n)) (cv :: cvs) = some b := kitAny_cons h (fun _ => r) fun z => by cases z
theorem IsPs.of {c : Ct} {n : Str} {cvs : List Value} {b : Bool} (h1 : c.mg n = some (.ref (He.ga c.K n)) ∧ XCls c.K (He.ga c.K n)) (h2 : PySem.W.kitAny c.K (.ref (He.ga c.K n)) cvs = some b) : IsPs c cvs n b := ⟨_, h1.1, h1.2, h2⟩
/-- names of classes as arguments -/
theorem pa_cls {X : Cx} {x : Str} {a : Value} {v : V} {p : Pos} {es : List Expr} {vs : List V} (hg : Gl X x) (hm : X.mg x = some a) (r : RelV v a) (t : PA X es (fun _ H Q => Q vs H)) (hdb : (x == ("__debug__" : Str)) = false := by decide)
    (hs : starEach (.Name x p :: es) X.env = (false, eval (.Name x p) X.env) :: starEach es X.env := by rfl) : PA X (.Name x p :: es) (fun _ H Q => Q (v :: vs) H) :=
  (pa_cons (pe_glob (v := v) hg hm r hdb) t hs).imp fun _ _ _ h => h
theorem pa_none {X : Cx} : PA X [] (fun _ H Q => Q [] H) := pa_nil.imp fun _ _ _ h => h
/-- a module's tuple of flat data -/
theorem reps_flat {K : Fr} {F : Hp} : ∀ {ds : List D}, ds.all flatD = true → Reps K F ds (ds.map toV)
  | [], _ => Reps.nil
  | d :: ds, h => by
    rw [List.all_cons, Bool.and_eq_true] at h
    refine Reps.cons ?_ (reps_flat h.2)
    cases d with
    | non => rfl
    | bl b => rfl
    | int i => rfl
    | str s => rfl
    | _ => cases h.1
theorem e_gtup {X : Cx} {c : Ct} {x : Str} {pos : Pos} {a : Addr} {ds : List D} {vs : List V} (hg : Gl X x) (hm : X.mg x = some (.ref a)) (h : ∀ H, SqT c.K H a vs) (hf : ds.all flatD = true) (hv : vs = ds.map toV) (hd : (x == ("__debug__" : Str)) = false := by decide) :
    PE X (.Name x pos) (tE c (cst (.tup ds))) := e_cst (pe_glob (v := .ref a) hg hm rfl hd) fun F => repTup (h F) (hv ▸ reps_flat hf)
/-- a promise that is asked of nothing -/
theorem fn_bad {P : Program} {w : World} {K : Fr} {mg : Str → Option Value} {base : Heap} {CX : CXT} {k n : Nat} {f : Addr} {fd : FuncData} {ps : List Str} : FnOk P w K mg base CX k f fd ps (spF K mg (fun _ => .bad) n) :=
  ⟨fun vs H Q E ⟨_, _, _, _, _, z⟩ => z.elim, fun A outer s H args us vs Q E _ _ _ _ ⟨_, _, _, _, _, z⟩ => z.elim⟩
end PM
namespace PM
open PySem L2 PyProof.Rows

/-! ### module constants that hold others -/
def vOf : D → Value → V
  | .tup _, .ref a => .ref a
  | d, _ => toV d
mutual
def datB (K : Fr) : D → Value → Bool
  | .tup ds, .ref a => match K.lookup a with
    | some ⟨.type c, _, .seq its _, _⟩ => decide (c = "tuple") && (decide (its.size ≤ sizeLine) && datsB K ds its.toList)
    | _ => false
  | .tup _, _ => false
  | d, u => flatD d && He.relAll [toV d] [u]
def datsB (K : Fr) : List D → List Value → Bool
  | [], [] => true
  | d :: ds, u :: us => datB K d u && datsB K ds us
  | _, _ => false
end
def vsOf : List D → List Value → List V
  | d :: ds, u :: us => vOf d u :: vsOf ds us
  | _, _ => []
theorem relAll1 {v : V} {u : Value} (h : He.relAll [v] [u] = true) : RelV v u := by
  have := He.relAll_ok h
  cases this with
  | cons a b => exact a
mutual
theorem datB_ok {K : Fr} : ∀ (d : D) (u : Value), datB K d u = true → RelV (vOf d u) u ∧ ∀ F, Rep K F d (vOf d u)
  | .non, u, h => by unfold datB at h; exact ⟨relAll1 (ba2 h).2, fun F => rfl⟩
  | .bl b, u, h => by unfold datB at h; exact ⟨relAll1 (ba2 h).2, fun F => rfl⟩
  | .int i, u, h => by unfold datB at h; exact ⟨relAll1 (ba2 h).2, fun F => rfl⟩
  | .str s, u, h => by unfold datB at h; exact ⟨relAll1 (ba2 h).2, fun F => rfl⟩
  | .lst ds, u, h => by unfold datB at h; cases (ba2 h).1
  | .dic ks ds, u, h => by unfold datB at h; cases (ba2 h).1
  | .raw v, u, h => by unfold datB at h; cases (ba2 h).1
  | .tup ds, u, h => by
    unfold datB at h
    split at h
    · rename_i a ds' e
      cases e
      split at h
      · rename_i c dct its ep sl e
        obtain ⟨h1, h2⟩ := ba2 h
        obtain ⟨h2, h3⟩ := ba2 h2
        obtain ⟨r1, r2⟩ := datsB_ok ds its.toList h3
        refine ⟨rfl, fun F => repTup (vs := vsOf ds its.toList) (Or.inr ⟨_, its, ep, e, ?_, rfl, of_decide_eq_true h2, r1⟩) (r2 F)⟩
        rw [of_decide_eq_true h1]
      · cases h
    · cases h
    · cases (ba2 h).1
theorem datsB_ok {K : Fr} : ∀ (ds : List D) (us : List Value), datsB K ds us = true → Vals (vsOf ds us) us ∧ ∀ F, Reps K F ds (vsOf ds us)
  | [], [], _ => ⟨.nil, fun F => Reps.nil⟩
  | [], _ :: _, h => by unfold datsB at h; cases h
  | _ :: _, [], h => by unfold datsB at h; cases h
  | d :: ds, u :: us, h => by
    unfold datsB at h
    obtain ⟨h1, h2⟩ := ba2 h
    obtain ⟨a1, a2⟩ := datB_ok d u h1
    obtain ⟨b1, b2⟩ := datsB_ok ds us h2
    exact ⟨.cons a1 b1, fun F => Reps.cons (a2 F) (b2 F)⟩
end
/-- the name holds the datum -/
def GlD (K : Fr) (mg : Str → Option Value) (x : Str) (d : D) : Prop := ∃ u v, mg x = some u ∧ RelV v u ∧ ∀ F, Rep K F d v
def glB (K : Fr) (x : Str) (d : D) : Bool := match PySem.W.nsIn K mainGlobals x with
  | some (some u) => datB K d u
  | _ => false
theorem glB_ok {K : Fr} {h : Heap} {mg : Str → Option Value} (X : K.In h) (G : h.Ns mainGlobals mg) {x : Str} {d : D} (e : glB K x d = true) : GlD K mg x d := by
  unfold glB at e
  split at e
  · rename_i u q
    obtain ⟨r1, r2⟩ := datB_ok d u e
    exact ⟨u, _, PySem.W.mg_of X G q, r1, r2⟩
  · cases e
theorem e_gdat {X : Cx} {c : Ct} {x : Str} {pos : Pos} {d : D} (hg : Gl X x) (h : GlD c.K X.mg x d) (hd : (x == ("__debug__" : Str)) = false := by decide) : PE X (.Name x pos) (tE c (cst d)) := by
  obtain ⟨u, v, h1, h2, h3⟩ := h
  exact e_cst (pe_glob (v := v) hg h1 h2 hd) h3
end PM
/-! ### an own exception over an own class over ValueError: __init__ says super().__init__(x), self.f = x -/
namespace PM
open PySem L2 PySem.Spec PyProof.Rows NdefX
section
open PySem.W PySem.Calls
variable {prog : Program} {w : World} {M : Model} {A : Around} {E : Value → Shared → Prop} {s : Shared} {h : Heap} {g : Array GenState} {d : Drawn} {t : Nat} {os : OsState}
/-- the wrapper called: ValueError.__init__ of the exception -/
theorem call_mw {nm q : Str} {C N : Addr} {bs bm : List Value} {hdct : Bool} {sn : List Str} {sub : List Value} {ab : Bool} {col : Option Bool} {dd : Option Addr} {k0 k1 k2 k3 k5 : Option Value} {u e t0 : Addr} {rest : List Value} {Q : Value → Shared → Prop}
    (hC : h.get? C = some (excClassObj nm q C N bs bm hdct sn sub ab col dd k0 k1 k2 k3 k5 "ValueError.__new__")) (he : h.get? e = some (HandSPX.excO C t0)) (hu : h.get? u = some (kxs_mw "ValueError.__init__" e)) (hrest : rest.length ≤ sizeLine)
    (hq : ∀ h' t1, (∀ b o, b ≠ e → h.get? b = some o → h'.get? b = some o) → h'.get? e = some (HandSPX.excO C t1) → Q .none ⟨h', g, d, t, os⟩) :
    wpAny (model prog w) A (call (.ref u) rest) Q E ⟨h, g, d, t, os⟩ := by
  refine wpAny_call (codeAny_of_tree ?_)
  show wpAny _ A.in1 (callAny (.ref u) ⟨rest, []⟩) _ _ _
  simp only [callAny]
  refine wpAny_bind (wpAny_load hu ?_)
  simp only [kxs_mw, show (Value.type "method-wrapper" == Value.type "method" || Value.type "method-wrapper" == Value.type "builtin_function_or_method" || Value.type "method-wrapper" == Value.type "method-wrapper") = true by decide, if_true]
  refine W.KFB.if_so (by decide) ?_
  refine wpAny_bind (PySem.ESX.check_bound F.excBase_ValueError hC he rfl ?_)
  refine wpAny_bind (wpAny_pure (wpAny_pure ?_))
  refine ⟨Code.quiet_builtin _ (by decide +kernel), codeAny_builtin F.excBase_ValueError.initEntry ?_⟩
  rw [Around.under_plainId F.excBase_ValueError.init.plain _]
  wp_walk
  refine hq _ h.objs.size (fun b o hb ho => ?_) ?_
  · rw [Heap.get?_update_other _ _ (Ne.symm hb)]
    exact Heap.get?_push_of_some _ ho
  · rw [Heap.get?_update_self _ (Heap.get?_push_of_some _ he) rfl]
    rfl
end
theorem callWith_mw {prog : Program} {w : World} {A : Around} {E : Value → Shared → Prop} {s : Shared} {i : String} {x u : Addr} {pos : Pos} {env : PySem.Env} {e : Expr} {rest : List Expr} {Q : Value → Shared → Prop}
    (h : wpAny (model prog w) A (spliced (backTo pos (starEach (e :: rest) env))) (fun vs s₁ => PySem.W.KxsAt i u x s₁.heap ∧ wpAny (model prog w) A (call (.ref u) vs) Q E s₁) E s)
    (he : starEach (e :: rest) env = (false, eval e env) :: starEach rest env := by rfl) (hplain : (backTo pos (starEach rest env)).any (·.1) = false := by rfl) :
    wpAny (model prog w) A (callWith pos (.ref u) [] (backTo pos (starEach (e :: rest) env)) []) Q E s := by
  rw [he] at h ⊢
  refine PySem.W.kxs_callWith (i := i) (x := x) (by show (false || (backTo pos (starEach rest env)).any (·.1)) = false; rw [hplain]; rfl) ?_
  exact PySem.Calls.evalArgs_plain h
/-- the body -/
def bodyX (p f : Str) (P : Fin 10 → Pos) : List Stmt :=
  [.Expr (.Call (.Attribute (.Call (.Name "super" (P 0)) [] [] (P 1)) "__init__" (P 2)) [.Name p (P 3)] [] (P 4)) (P 5),
   .Assign [.Attribute (.Name "self" (P 6)) f (P 7)] (.Name p (P 8)) (P 9)]

theorem sup_eval {env : PySem.Env} {p0 p1 p2 p3 p4 : Pos} {p : Str} (hpp : (p2.endLine == p4.line) = true) : eval (.Call (.Attribute (.Call (.Name "super" p0) [] [] p1) "__init__" p2) [.Name p p3] [] p4) env = (do
      let ov ← attributeBase (.Call (.Name "super" p0) [] [] p1) "__init__" env (eval (.Call (.Name "super" p0) [] [] p1) env)
      standAt p2.atName
      let (f, first) ← holding [ov] (getMethod ov "__init__" (do return (← importBound (.Call (.Name "super" p0) [] [] p1) env).getD true))
      callWith p4 f first (backTo p4 (starEach [.Name p p3] env)) []) := by
  rw [eval]
  unfold methodCall methodCallPos
  simp only [hpp, Bool.or_true, if_true]
  rfl
/-- what the written part says of the class at C (its __init__ at fI, code at cda, cell at cc) -/
structure SupC (prog : Program) (K : Fr) (mg : Str → Option Value) (C fI cc : Addr) (F : NF) (p f : Str) : Prop where
  T : OexC K C
  fn : ∃ oc od doc pm ctv osl, K.lookup fI = some (⟨oc, od, .func (F.fd doc pm ctv), osl⟩ : Obj)
  cl : F.cl = [(("__class__" : Str), cc)]
  hcd : PySem.W.codeIn K (.ref F.c) F.qual = true
  code : ∃ ccl cdd vs ccs file tf, K.lookup F.c = some (⟨ccl, cdd, .fields vs, ccs⟩ : Obj) ∧ vs[2]? = some (.str file tf) ∧ ((prog.main.file : Str) == file) = true
  cell : ∃ cl cld csl, K.lookup cc = some (⟨cl, cld, .cell (some (.ref C)), csl⟩ : Obj)
  sub : PySem.W.mroIn K C (.ref C) = some true
  ho : PySem.W.nsIn K cStatics "thirdparty.any" = some none
  hm : PySem.W.ks_superIn K C C "__init__" = some (some (.builtin "ValueError.__init__"))
  hB : PySem.W.subIn K (.ref C) (.type "ValueError") = some true
  no : PySem.W.findIn K (.ref C) f = some none
  iC : PySem.W.findIn K (.ref C) "__init__" = some (some (.ref fI))
  tI : PySem.W.typeIn K (.ref fI) = some (.type "function")
  msup : mg "super" = none
  hp1 : (p == ("__debug__" : Str)) = false
  hp2 : (p == ("__classdict__" : Str)) = false
  htop : (prog.main.scope.names.lookup ("super" : Str)).isSome = false
  sc : NScope ([("self" : Str), p, "__class__"] : List Str) ([("self" : Str), p] : List Str) ["__class__"] F.scope
  par : (F.params.posonlyargs ++ F.params.args).head? = some ⟨"self", none, (F.params.args.headD ⟨"", none, ⟨0, 0, 0, 0⟩⟩).pos⟩
  gl : F.scope.names.lookup ("super" : Str) = some .globalImplicit
  body : ∃ P, F.body = bodyX p f P ∧ ((P 2).endLine == (P 4).line) = true
  bind : ∀ (doc pm ctv : Value) (us : List Value), us.length = 2 → bindArgs (F.fd doc pm ctv) ⟨us, []⟩ = pure (([("self" : Str), p] : List Str).zip us)

/-- the promise -/
def spX (C : Addr) (f : Str) : Sp := fun vs H Q _ => ∃ a y, vs = [.ref a, y] ∧ H a = some (exo a C none) ∧ ∀ dx, H dx = none → dx ≠ a → Q .non (L2.upd (L2.upd H dx (exd dx [(f, y)])) a (exo a C (some dx)))

theorem init_ok {CX : CXT} {P : Program} {w : World} {K : Fr} {mg : Str → Option Value} {base : Heap} {C fI cc : Addr} {F : NF} {p f : Str} (S : SupC P K mg C fI cc F p f) {doc pm ctv : Value} {oc : Value} {od : Option Addr} {osl : Array (Option Value)}
    (lk : K.lookup fI = some (⟨oc, od, .func (F.fd doc pm ctv), osl⟩ : Obj)) : FnOk P w K mg base CX 1 fI (F.fd doc pm ctv) ([("self" : Str), p] : List Str) (spX C f) := by
  refine ⟨fun vs H Q E ⟨a, y, e, _⟩ => by rw [e]; rfl, fun A outer s H args us vs Q E hr e0 hb r hsp => ?_⟩
  have hl : vs.length = ([("self" : Str), p] : List Str).length := by obtain ⟨a, y, e, _⟩ := hsp; rw [e]; rfl
  have KX : K.In s.heap := e0.mod.kin.keeps fun b o e => (e0.bs b o e).1
  have lim : s.heap.NoLimit := e0.mod.nolimit.keeps fun b o e => (e0.bs b o e).1
  obtain ⟨cl, cld, csl, hcell⟩ := S.cell
  obtain ⟨ccl, cdd, vsC, ccs, file, tf, hcode, hvs, hfile⟩ := S.code
  have CA : CellsAt F.cl ["__class__"] [none] s.heap H := by
    rw [S.cl]
    refine ⟨rfl, fun y c e => ?_, fun x y c e1 e2 => ?_, fun i y e => ?_⟩
    · have : c = cc := by
        rw [List.lookup_cons] at e
        split at e
        · exact (Option.some.inj e).symm
        · cases e
      subst this
      have hb := e0.mod.kin _ _ hcell
      exact ⟨(e0.bs _ _ hb).2, _, _, (e0.bs _ _ hb).1, rfl⟩
    · have key : ∀ z, (([(("__class__" : Str), cc)] : List (Str × Addr)).lookup z = some c) → z = "__class__" := fun z h => by
        rw [List.lookup_cons] at h
        split at h
        · rename_i q; exact eq_of_beq q
        · cases h
      rw [key x e1, key y e2]
    · cases i with
      | zero =>
        cases e
        exact ⟨cc, rfl, fun v e => by cases e⟩
      | succ i => cases e
  refine ks_codeAny_call_defAt (body := F.body) (binds := ([("self" : Str), p] : List Str).zip us) hr.depth (KX _ _ lk) rfl lim (PySem.W.codeRec_of KX S.hcd) rfl hb S.sc.nocell (fun ⟨n, _⟩ hy => S.sc.par n (List.of_mem_zip hy).1) (fun h₁ hns kp => ?_) S.sc.co S.sc.gen S.sc.kind
  obtain ⟨a, y, ev, ea, hq⟩ := hsp
  subst ev
  have I : Inv (ncx CX P w K mg base ([("self" : Str), p, "__class__"] : List Str) F fI A outer s H E) [] (startF ([("self" : Str), p, "__class__"] : List Str) [.ref a, y] [none]) H { s with heap := h₁, toks := s.toks + (([("self" : Str), p] : List Str).zip us).length } := inv_startN S.sc hr.hd e0 hl r CA hns kp
  obtain ⟨PP, hbody, hpp⟩ := S.body
  show PySem.wpAt (model P w) (A.deeper (envF F fI s.heap.objs.size)) (.func F.body (envF F fI s.heap.objs.size)) (execs F.body (envF F fI s.heap.objs.size)) _ _ _
  have KX1 : K.In h₁ := I.kIn
  obtain ⟨nm, q, N, bs, bm, sn, sub, ab, col, dd, k0, k1, k2, k3, k5, hC, hbm⟩ := S.T.cls
  have hcl : PySem.W.clsIn K C = some { name := nm, bases := bs, mro := .ref C :: bm, ns := N, qualname := q, hasDict := true, slotNames := sn, subclasses := sub, abstract := ab, collection := col, hasDel := false } := by unfold PySem.W.clsIn; rw [hC] <;> rfl
  obtain ⟨t1, ho⟩ := exo_at I.hok ea
  have key : ∀ bd : List Stmt, F.body = bd → bd = bodyX p f PP → PySem.wpAt (model P w) (A.deeper (envF F fI s.heap.objs.size)) (.func bd (envF F fI s.heap.objs.size)) (execs (bodyX p f PP) (envF F fI s.heap.objs.size))
      (fun fl s' => CR CX outer P w H s Q E (.ok (.ret (match fl with | .ret v => v | _ => .none))) s')
      (fun e s' => wpAny (model P w) (A.deeper (envF F fI s.heap.objs.size)) (leaving (envF F fI s.heap.objs.size) e) (fun _ s'' => CR CX outer P w H s Q E (.error e) s'') (fun e' s'' => CR CX outer P w H s Q E (.error e') s'') s')
      { s with heap := h₁, toks := s.toks + (([("self" : Str), p] : List Str).zip us).length } := by
    intro bd _ _
    unfold bodyX
    refine ks_wpAt_execs_cons (ks_wpAt_Expr_any (ks_wpAt_MethodCall (pl := do return (← importBound (.Call (.Name "super" (PP 0)) [] [] (PP 1)) (envF F fI s.heap.objs.size)).getD true) ?_ (sup_eval hpp)) I.quiet)
    have hD := KX1 _ _ hC
    have hfo := KX1 _ _ lk
    refine ks_wpAt_super_base (env := envF F fI s.heap.objs.size) (fd := F.fd doc pm ctv) (cc := F.c) S.gl (S.sc.frk _ (by simp)) (by decide) rfl hfo rfl S.par rfl (KX1 _ _ hcode) rfl hvs hfile S.htop ?_
    obtain ⟨mb, hmb, hbl⟩ := I.mod.blt
    refine PySem.W.ks_loadName_global S.sc.kind S.gl (PySem.Calls.loadGlobal_builtin (env := envF F fI s.heap.objs.size) (I.mod.glob.at fun o e => I.bk _ _ e) S.msup (hmb.at fun o e => I.bk _ _ e) ((hbl _ (by decide)).trans (by decide +kernel)) ⟨rfl, ?_⟩)
    refine wpAny_loadName_free S.sc.kind (S.sc.frk _ (by simp)) (by show F.cl.lookup _ = _; rw [S.cl]; rfl) ⟨_, KX1 _ _ hcell, rfl⟩ ?_
    obtain ⟨u0, u1, rfl⟩ : ∃ u0 u1, us = [u0, u1] := by
      have := r.length
      match us, this with
      | [u0, u1], _ => exact ⟨u0, u1, rfl⟩
    obtain ⟨r0, r1⟩ : RelV (.ref a) u0 ∧ RelV y u1 := by
      cases r with
      | cons h1 h2 => cases h2 with
        | cons h2 h3 => exact ⟨h1, h2⟩
    obtain rfl : u0 = Value.ref a := r0
    have pself : p ≠ "self" := fun z => by
      have := S.sc.nd
      rw [z] at this
      simp at this
    refine wpAny_loadName_local S.sc.kind (S.sc.par "self" (by simp)) hns (v := .ref a) (by
      show ([(("self" : Str), Value.ref a), (p, u1)].reverse).lookup ("self" : Str) = _
      have e : (("self" : Str) == p) = false := by
        cases q : (("self" : Str) == p) with
        | false => rfl
        | true => exact absurd (eq_of_beq q).symm pself
      simp [List.lookup, e]) ?_
    refine ks_wpAny_isType_cls hD rfl ⟨rfl, ?_⟩
    refine ks_wpAny_call_super hD rfl ho rfl (fun c z => by cases z) (PySem.W.looks_mroIn KX1 S.sub) (fun h2 e2 k2 => ?_)
    have J2 := I.kept (t' := s.toks + (([("self" : Str), p] : List Str).zip [Value.ref a, u1]).length) k2
    have IA : PySem.W.InstAt h2 a { cls := .ref C, dict := none, data := .fields #[.ref t1, .none, .none, .none, .bool false, .none] } C none := ⟨k2 _ _ ho, rfl, rfl, trivial⟩
    have KX2 : K.In h2 := J2.kIn
    have hf2 : PySem.W.alongIn K "__init__" (((Value.ref C :: bm).dropWhile (· != .ref C)).drop 1) = some (some (.builtin "ValueError.__init__")) := by
      have z := S.hm
      unfold PySem.W.ks_superIn at z
      rw [hcl] at z
      exact z
    refine PySem.W.kxs_getMethod PySem.W.kxs_ValueError e2 (PySem.W.looks_opaque KX2 S.ho) (l₀ := .ref C :: bm) (fun A Q E s k q => wpAny_bind ((PySem.W.looks_clsIn KX2 hcl) A _ E s k (wpAny_pure q))) rfl KX2 hf2 (IA.type.andThen (PySem.W.looks_subIn KX2 S.hB)) (PySem.W.ks_ne KX2 IA hcl) (by decide) ?_
    have J3 := J2.kept (t' := s.toks + (([("self" : Str), p] : List Str).zip [Value.ref a, u1]).length + 1) (h' := h2.push (PySem.W.kxs_mw "ValueError.__init__" a)) (fun b o e => Heap.get?_push_of_some _ e)
    have hu3 : (h2.push (PySem.W.kxs_mw "ValueError.__init__" a)).get? h2.objs.size = some (PySem.W.kxs_mw "ValueError.__init__" a) := Heap.get?_push_at rfl rfl
    have J3p := J3.pins_of (pins' := [(h2.objs.size, PySem.W.kxs_mw "ValueError.__init__" a)]) (fun q hq => by
      obtain rfl : q = (h2.objs.size, PySem.W.kxs_mw "ValueError.__init__" a) := by simpa using hq
      exact ⟨hu3, J2.fresh, Ne.symm (Nat.ne_of_lt J2.lt), J2.nofs (Nat.le_refl _), fun v z => by cases z⟩)
    have hav : PA (ncx CX P w K mg base ([("self" : Str), p, "__class__"] : List Str) F fI A outer s H E) [.Name p (PP 3)] _ := pa_cons (pe_var (i := 1) rfl (.inl (S.sc.par p (by simp))) S.hp1 S.hp2) pa_nil
    refine callWith_mw (x := a) (i := "ValueError.__init__") (thn (hav.run (PP 4) _ _ _ _ (fun ws H' => ws = [y] ∧ H' = H) J3p ⟨y, rfl, rfl, rfl⟩) fun vs s1 hh => ?_)
    obtain ⟨ws, H1, I1, rv1, rfl, rfl⟩ := hh
    have hu4 := (I1.pin (h2.objs.size, PySem.W.kxs_mw "ValueError.__init__" a) (by simp)).1
    refine ⟨hu4, ?_⟩
    obtain ⟨t4, ho4⟩ := exo_at I1.hok ea
    obtain ⟨h4, g4, d4, tk4, os4⟩ := s1
    have hlen : vs.length ≤ sizeLine := by
      have := rv1.length
      rw [← this]
      show 1 ≤ sizeLine
      decide
    refine call_mw (I1.kIn _ _ hC) ho4 hu4 hlen fun h5 t5 k5 hx5 => ?_
    have I5 := I1.write (t' := tk4) (x := a) (e := a) (o := exo a C none) (by rw [ea]; exact True.intro) (.inl rfl) k5 ⟨_, hx5⟩ (exo_ok hx5)
    have eu : L2.upd H1 a (exo a C none) = H1 := by
      funext b
      by_cases hb : b = a
      · rw [hb, upd_same, ea]
      · rw [upd_ne hb]
    rw [eu] at I5
    have hps : PSs (ncx CX P w K mg base ([("self" : Str), p, "__class__"] : List Str) F fI A outer s H1 E) [.Assign [.Attribute (.Name "self" (PP 6)) f (PP 7)] (.Name p (PP 8)) (PP 9)] _ :=
      pss_one (ps_ost (f := f) (pe_var (i := 0) rfl (.inl (S.sc.par "self" (by simp)))) (pe_var (i := 1) rfl (.inl (S.sc.par p (by simp))) S.hp1 S.hp2))
    refine PySem.wpAt_of_wpAny (wpAny_mono (hps.run _ _ _ _ { nx := fun _ H' => Q .non H', rt := Q } I5 ⟨y, rfl, .ref a, rfl, a, C, rfl, S.T, S.no, .inl ⟨ea, hq⟩⟩) (fun fl s' hs => ?_) fun e s' hs => hs)
    have fin : ∀ {pins : List (Addr × Obj)} {σ' : L2.St} {H' : Hp} {v : V} {u : Value}, Inv (ncx CX P w K mg base ([("self" : Str), p, "__class__"] : List Str) F fI A outer s H1 E) pins σ' H' s' → RelV v u → Q v H' → CE outer P w H1 s Q u s' :=
      fun {pins σ' H' v u} J rv q => ⟨v, H', J.os, J.bare, J.base, J.hok, rv, q⟩
    cases fl with
    | ret u =>
      obtain ⟨v, σ', H', J, rv, q⟩ := hs
      exact fin J rv q
    | next =>
      obtain ⟨σ', H', J, q⟩ := hs
      exact fin (v := V.non) (u := Value.none) J rfl q
    | brk =>
      obtain ⟨_, _, _, q⟩ := hs
      exact False.elim q
    | cont =>
      obtain ⟨_, _, _, q⟩ := hs
      exact False.elim q
  rw [show execs F.body (envF F fI s.heap.objs.size) = execs (bodyX p f PP) (envF F fI s.heap.objs.size) by rw [hbody]]
  exact key F.body rfl hbody

/-! ### read off the written part -/
def clsIni : Stmt → Stmt
  | .ClassDef _ _ _ b _ _ _ _ _ _ _ => b.headD (.Pass ⟨0, 0, 0, 0⟩)
  | s => s
def iniA (K : Fr) (n : Str) : Addr := match PySem.W.findIn K (.ref (He.ga K n)) "__init__" with
  | some (some (.ref f)) => f
  | _ => 0
abbrev IniW : Type := Option (Str × Str × Arguments × FuncBody × Scope × Addr × List Str × Addr)
def iniW (K : Fr) (n : Str) : IniW := match K.lookup (iniA K n) with
  | some ⟨_, _, .func fd, _⟩ => some (fd.name, fd.qualname, fd.params, fd.body, fd.scope, fd.globals, fd.closure.map (·.1), fd.builtins)
  | _ => none
/-- one class: its name, the def of its __init__ -/
structure IniD where
  n : Str
  qual : Str
  params : Arguments
  body : List Stmt
  scope : Scope
def IniD.val (d : IniD) : IniW := some ("__init__", d.qual, d.params, .stmts d.body, d.scope, mainGlobals, ["__class__"], builtinsNs)
def oexB (K : Fr) (C : Addr) : Bool := (match K.lookup C with
  | some ⟨.type "type", _, .cls cd, sl⟩ => (match cd.mro, sl.toList with
    | .ref C' :: bm, [_, _, _, _, some (.builtin n), _] => C' == C && (n == "ValueError.__new__" && (!cd.hasDel && (cd.hasDict && PySem.HandSPX.refsVE bm)))
    | _, _ => false)
  | _ => false) && (decide (PySem.W.findIn K (.ref C) "__setattr__" = some (some (.builtin "object.__setattr__"))) && (decide (PySem.W.subIn K (.ref C) (.type "BaseException") = some true) && (decide (PySem.W.typeIn K (.ref C) = some (.type "type")) && PySem.W.keepIn K (.ref C))))
theorem oexB_ok {K : Fr} {C : Addr} (h : oexB K C = true) : OexC K C := by
  unfold oexB at h
  obtain ⟨h0, h⟩ := ba2 h
  obtain ⟨h1, h⟩ := ba2 h
  obtain ⟨h2, h⟩ := ba2 h
  obtain ⟨h3, h4⟩ := ba2 h
  refine ⟨?_, of_decide_eq_true h1, of_decide_eq_true h2, of_decide_eq_true h3, h4⟩
  split at h0
  · rename_i dd cd sl ho
    split at h0
    · rename_i C' bm k0 k1 k2 k3 n k5 hm hs
      simp only [Bool.and_eq_true, beq_iff_eq, Bool.not_eq_true'] at h0
      obtain ⟨rfl, rfl, hdel, hdc, ht⟩ := h0
      obtain ⟨nm, bs, mro, ns, qn, hd, sn, sub, ab, col, del⟩ := cd
      dsimp only at hm hdel hdc
      subst hm hdel hdc
      have hsl : sl = #[k0, k1, k2, k3, some (.builtin "ValueError.__new__"), k5] := by
        obtain ⟨l⟩ := sl
        simp only at hs
        rw [hs]
      subst hsl
      exact ⟨nm, qn, ns, bs, bm, sn, sub, ab, col, dd, k0, k1, k2, k3, k5, ho, ht⟩
    · cases h0
  · cases h0
def supB (file : Str) (K : Fr) (n qual f : Str) : Bool :=
  (match K.lookup (iniA K n) with
    | some ⟨_, _, .func fd, _⟩ => (match fd.closure, fd.code with
      | [(_, cc)], .ref cda => (match K.lookup cc with | some ⟨_, _, .cell (some (.ref D)), _⟩ => decide (D = He.ga K n) | _ => false) && (PySem.W.codeIn K (.ref cda) qual && ((match K.lookup cda with | some ⟨_, _, .fields vs, _⟩ => (match vs.toList with | _ :: _ :: .str fl _ :: _ => file == fl | _ => false) | _ => false) &&
          ((match fd.defaults with | .none => true | _ => false) && ((match fd.kwdefaults with | .none => true | _ => false) && decide (fd.annotations = none)))))
      | _, _ => false)
    | _ => false) && (oexB K (He.ga K n) && (decide (PySem.W.mroIn K (He.ga K n) (.ref (He.ga K n)) = some true) && (decide (PySem.W.nsIn K cStatics "thirdparty.any" = some none) && (decide (PySem.W.ks_superIn K (He.ga K n) (He.ga K n) "__init__" = some (some (.builtin "ValueError.__init__"))) &&
    (decide (PySem.W.subIn K (.ref (He.ga K n)) (.type "ValueError") = some true) && (decide (PySem.W.findIn K (.ref (He.ga K n)) f = some none) && (decide (PySem.W.findIn K (.ref (He.ga K n)) "__init__" = some (some (.ref (iniA K n)))) && (decide (PySem.W.typeIn K (.ref (iniA K n)) = some (.type "function")) && xfB K (He.ga K n)))))))))
/-- what gen.py shows of the class -/
structure IniS (prog : Program) (d : IniD) (p : Str) (P : Fin 10 → Pos) (f : Str) (file : Str) : Prop where
  file : prog.main.file = file
  hp1 : (p == ("__debug__" : Str)) = false
  hp2 : (p == ("__classdict__" : Str)) = false
  htop : (prog.main.scope.names.lookup ("super" : Str)).isSome = false
  sc : nscB ([("self" : Str), p, "__class__"] : List Str) ([("self" : Str), p] : List Str) ["__class__"] d.scope = true
  par : (d.params.posonlyargs ++ d.params.args).head? = some ⟨"self", none, (d.params.args.headD ⟨"", none, ⟨0, 0, 0, 0⟩⟩).pos⟩
  gl : d.scope.names.lookup ("super" : Str) = some .globalImplicit
  body : d.body = bodyX p f P ∧ ((P 2).endLine == (P 4).line) = true
  bind : ∀ (cc cda : Addr) (doc pm ctv : Value) (us : List Value), us.length = 2 → bindArgs ((NF.mk "__init__" d.qual d.params d.body d.scope [(("__class__" : Str), cc)] cda).fd doc pm ctv) ⟨us, []⟩ = pure (([("self" : Str), p] : List Str).zip us)
/-- the class n may be made of one value, which becomes its field f -/
structure MkX (P : Program) (w : World) (K : Fr) (mg : Str → Option Value) (base : Heap) (CX : CXT) (n p f : Str) : Prop where
  ex : ∃ fd, mg n = some (.ref (He.ga K n)) ∧ FnOk P w K mg base CX 1 (iniA K n) fd ([("self" : Str), p] : List Str) (spX (He.ga K n) f) ∧ Binds K fd ([("self" : Str), p] : List Str) []
  T : OexC K (He.ga K n)
  iC : PySem.W.findIn K (.ref (He.ga K n)) "__init__" = some (some (.ref (iniA K n)))
  tI : PySem.W.typeIn K (.ref (iniA K n)) = some (.type "function")
  xf : XfC K (He.ga K n)
  no : PySem.W.findIn K (.ref (He.ga K n)) f = some none
theorem mkX_ok {P : Program} {w : World} {K : Fr} {mg : Str → Option Value} {base : Heap} {CX : CXT} {d : IniD} {p f file : Str} {PP : Fin 10 → Pos} (S : IniS P d p PP f file) (hw : iniW K d.n = d.val) (hb : supB file K d.n d.qual f = true) (hm : mg d.n = some (.ref (He.ga K d.n))) (hs : mg "super" = none) :
    MkX P w K mg base CX d.n p f := by
  unfold supB at hb
  obtain ⟨h0, hb⟩ := ba2 hb
  obtain ⟨h1, hb⟩ := ba2 hb
  obtain ⟨h2, hb⟩ := ba2 hb
  obtain ⟨h3, hb⟩ := ba2 hb
  obtain ⟨h4, hb⟩ := ba2 hb
  obtain ⟨h5, hb⟩ := ba2 hb
  obtain ⟨h6, hb⟩ := ba2 hb
  obtain ⟨h7, hb⟩ := ba2 hb
  obtain ⟨h8, h9⟩ := ba2 hb
  refine ⟨?_, oexB_ok h1, of_decide_eq_true h7, of_decide_eq_true h8, xfB_ok h9, of_decide_eq_true h6⟩
  unfold iniW at hw
  cases q : K.lookup (iniA K d.n) with
  | none => rw [q] at hw; cases hw
  | some o =>
    obtain ⟨oc, od, dt, osl⟩ := o
    rw [q] at hw h0
    cases dt with
    | func fd =>
      obtain ⟨n1, n2, n3, n4, n5, n6, n7, n8, n9, n10, n11, n12, n13, n14, n15⟩ := fd
      have e2 : (some (n1, n2, n3, n4, n5, n6, n7.map (·.1), n15) : IniW) = (some (("__init__" : Str), d.qual, d.params, FuncBody.stmts d.body, d.scope, mainGlobals, [("__class__" : Str)], builtinsNs) : IniW) := hw
      simp only [Option.some.injEq, Prod.mk.injEq] at e2
      obtain ⟨g1, g2, g3, g4, g5, g6, g7, g8⟩ := e2
      subst g1 g2 g3 g4 g5 g6 g8
      obtain ⟨x, cc, rfl⟩ : ∃ x cc, n7 = [(x, cc)] := by
        match n7, g7 with
        | [(x, cc)], _ => exact ⟨x, cc, rfl⟩
      dsimp only at h0
      cases n13 with
      | ref cda =>
        obtain rfl : x = "__class__" := by simpa using g7
        obtain ⟨a1, h0⟩ := ba2 h0
        obtain ⟨a2, h0⟩ := ba2 h0
        obtain ⟨a3, h0⟩ := ba2 h0
        obtain ⟨a4, h0⟩ := ba2 h0
        obtain ⟨a5, a6⟩ := ba2 h0
        have a6 := of_decide_eq_true a6
        subst a6
        have e8 : n8 = .none := by cases n8 <;> first | rfl | cases a4
        have e9 : n9 = .none := by cases n9 <;> first | rfl | cases a5
        subst e8 e9
        have SC : SupC P K mg (He.ga K d.n) (iniA K d.n) cc (NF.mk "__init__" d.qual d.params d.body d.scope [(("__class__" : Str), cc)] cda) p f := {
          T := oexB_ok h1
          fn := ⟨_, _, _, _, _, _, q⟩
          cl := rfl
          hcd := a2
          code := by
            split at a3
            · rename_i c1 c2 vs c3 hl
              split at a3
              · rename_i u0 u1 fl tf ur hv
                exact ⟨_, _, _, _, _, _, hl, by rw [← Array.getElem?_toList, hv]; rfl, by rw [S.file]; exact a3⟩
              · cases a3
            · cases a3
          cell := by
            split at a1
            · rename_i c1 c2 D c3 hl
              have := of_decide_eq_true a1
              subst this
              exact ⟨_, _, _, hl⟩
            · cases a1
          sub := of_decide_eq_true h2
          ho := of_decide_eq_true h3
          hm := of_decide_eq_true h4
          hB := of_decide_eq_true h5
          no := of_decide_eq_true h6
          iC := of_decide_eq_true h7
          tI := of_decide_eq_true h8
          msup := hs
          hp1 := S.hp1
          hp2 := S.hp2
          htop := S.htop
          sc := nscope_by S.sc
          par := S.par
          gl := S.gl
          body := ⟨PP, S.body⟩
          bind := S.bind cc cda }
        exact ⟨_, hm, init_ok SC q, Binds.all fun us hl => S.bind cc cda _ _ _ us hl⟩
      | _ => cases h0
    | _ => cases h0
/-! ### raise n(e) -/
def raiseF (n f : Str) (A : M D) : SM := A.thenS fun d ρ => .exc ⟨n, [(f, d)]⟩ ρ
section
variable {X : Cx} {c : Ct} {pos pos' p : Pos} {n q f : Str} {e : Expr} {A : M D}
theorem s_raiseF (m : MkX X.prog X.w X.K X.mg X.base (L2.CX X.prog X.w) n q f) (hr : Room 2 X.A) (tk : Takes X c.W) (hc : X.calm = true) (hK : c.K = X.K) (hM : c.mg = X.mg) (hg : Gl X n) (ha : PE X e (tF c A))
    (hdb : (n == ("__debug__" : Str)) = false := by decide) (he : starEach [e] X.env = (false, eval e X.env) :: starEach [] X.env := by rfl) : PS X (.Raise (some (.Call (.Name n p) [e] [] pos)) none pos') (tS c (raiseF n f A)) := by
  obtain ⟨fd, hm, F1, hb⟩ := m.ex
  have ha2 : PA X [e] (tFs c (acons A anil)) := a_cons ha a_nil he
  have hx : Passes (L2.CX X.prog X.w) X (fun _ _ _ => False) := passes_call tk (fun _ _ _ _ h => h.elim)
  refine (ps_raise hc tk (pmk_oex (ds := []) (dvs := []) m.T m.iC m.tI F1 hr hb Paired.nil hx hg hm ha2 hdb he)).imp fun D σ H ⟨F, ρ, S, k⟩ => ⟨F, ρ, S, ?_⟩
  unfold raiseF M.thenS at k
  unfold acons anil M.bind
  cases q1 : A ρ with
  | bad => rw [q1] at k; exact k.elim
  | exc x ρ1 =>
    rw [q1] at k
    exact fun F' H' cls d S' x' => k σ F' H' cls d S' x'
  | ok d ρ1 =>
    rw [q1] at k
    intro vs F1' H1 S1 f1 g1 r1
    obtain ⟨v, r, rfl, r1', r2⟩ := Reps.inv (ds := []) r1
    have r2 := r2.inv0
    subst r2
    refine ⟨by show 1 ≤ 1000; decide, fun a ha => ⟨a, v, rfl, upd_same, fun dx hdx hne => ⟨rfl, dx, [(f, v)], upd_same, ?_, ?_, ?_⟩⟩⟩
    · rw [upd_ne hne, upd_same]
    · rw [upd_ne hne] at hdx; exact hdx
    · have hdx1 : H1 dx = none := by rw [upd_ne hne] at hdx; exact hdx
      have e1 : L2.upd (del (L2.upd (L2.upd (L2.upd H1 a (exo a (He.ga X.K n) none)) dx (exd dx [(f, v)])) a (exo a (He.ga X.K n) (some dx))) a) dx (.xd [(f, v)]) = L2.upd H1 dx (.xd [(f, v)]) := by
        funext b
        by_cases hb : b = dx
        · subst hb; rw [upd_same, upd_same]
        · rw [upd_ne hb, upd_ne hb]
          by_cases hb2 : b = a
          · subst hb2; rw [del_same, ha]
          · rw [del_ne hb2, upd_ne hb2, upd_ne hb, upd_ne hb2]
      rw [e1]
      have G := growT (o := .xd [(f, v)]) S1.fh hdx1
      refine k σ _ _ _ _ (S1.grow G) ⟨by rw [hM]; exact hm, .inr ⟨dx, [v], rfl, upd_same, ?_⟩⟩
      exact Reps.cons (Rep.mono G.f _ _ r1') Reps.nil
end
/-! ### e.f in a suite -/
def fldE (t : List (Str × Bool)) (f : Str) (e : Exn) : M Slot := M.lift (if t.lookup e.cls = some true then (e.fs.lookup f).map fun d => (false, d) else none)
def XfP (c : Ct) (f n : Str) (b : Bool) : Prop := b = true → ∃ C, c.mg n = some (.ref C) ∧ XfC c.K C ∧ PySem.W.findIn c.K (.ref C) f = some none
theorem XfP.of {P : Program} {w : World} {c : Ct} {base : Heap} {CX : CXT} {n p f : Str} (m : MkX P w c.K c.mg base CX n p f) : XfP c f n true := fun _ => by
  obtain ⟨fd, hm, _⟩ := m.ex
  exact ⟨_, hm, m.xf, m.no⟩
theorem zip_lookup {K : Fr} {F : Hp} {f : Str} : ∀ {fs : List (Str × D)} {vs : List V} {d : D}, Reps K F (fs.map (·.2)) vs → fs.lookup f = some d → ∃ v, ((fs.map (·.1)).zip vs).lookup f = some v ∧ Rep K F d v
  | [], vs, d, r, e => by cases e
  | (g, d') :: fs, vs, d, r, e => by
    obtain ⟨v, r', rfl, k1, k2⟩ := r.inv
    rw [List.lookup_cons] at e
    show ∃ v', ((g, v) :: (fs.map (·.1)).zip r').lookup f = some v' ∧ _
    rw [List.lookup_cons]
    split at e
    · rename_i q
      cases e
      exact ⟨v, rfl, k1⟩
    · rename_i q
      obtain ⟨v', e', k'⟩ := zip_lookup k2 e
      exact ⟨v', e', k'⟩
section
variable {X : Cx} {c : Ct} {F0 : Hp} {i : Nat} {a : Addr} {oe : Obj} {cls : Value} {d : Option Addr} {pn : List (Addr × Obj)} {e : Exn} {y f : Str} {p1 pos : Pos} {t : List (Str × Bool)}
theorem e_fld (hz : Zc cls d oe) (hf : ∃ vs, oe.data = .fields vs) (hx : XR c.K c.mg F0 F0 e cls d) (hK : c.K = X.K) (T : TabP (XfP c f) t) (he : PE (X.suite a ((a, oe) :: pn)) (.Name y p1) (tVar i))
    (hb : attributeBase (.Name y p1) f X.env (eval (.Name y p1) X.env) = eval (.Name y p1) X.env := by rfl) : PE (X.suite a ((a, oe) :: pn)) (.Attribute (.Name y p1) f pos) (tE (cS c F0 (some i) a) (fldE t f e)) := by
  by_cases hl : t.lookup e.cls = some true
  · obtain ⟨C, hC, xf, hno⟩ := T _ _ hl rfl
    have e1 := hx.1.symm.trans hC
    cases e1
    refine (pe_xf (X := X) (hK ▸ xf) (hK ▸ hno) hz hf he hb).imp fun σ H Q ⟨F, ρ, S, k⟩ => ⟨.ref a, S.pk i _ rfl, rfl, rfl, ?_⟩
    unfold fldE at k
    rw [if_pos hl] at k
    cases q : e.fs.lookup f with
    | none => rw [q] at k; exact k.elim
    | some dd =>
      rw [q] at k
      rcases hx.2 with ⟨h1, _⟩ | ⟨dx, vs, h2, h3, h4⟩
      · rw [h1] at q; cases q
      · obtain ⟨v, hv, rv⟩ := zip_lookup h4 q
        exact ⟨dx, _, v, h2, S.fh _ _ (S.f0 _ _ h3), hv, k v F H S (Sub.refl _) (Sub.refl _) ⟨Rep.mono S.f0 _ _ rv, fun z => by cases z⟩⟩
  · refine ⟨fun pins s σ H Q I ⟨F, ρ, S, k⟩ => ?_⟩
    unfold fldE at k
    rw [if_neg hl] at k
    exact k.elim
end
/-! ### the hook with these classes -/
abbrev AlO : Type := AlM × List IniW
def frO (g : Addr → Option Obj) (n : Nat) : Fr := He.frG g (He.asD g n ++ [cStatics])
def obsO (n : Nat) (fa : List He.Fa) (fn : List He.DefD) (cs : List IniD) (ex : Fr → Bool) (g : Addr → Option Obj) : AlO := ((He.obsD fa fn (frO g n), noLst (frO g n) && ex (frO g n)), cs.map fun d => iniW (frO g n) d.n)
def hookO (n : Nat) (fa : List He.Fa) (fn : List He.DefD) (cs : List IniD) (ex : Fr → Bool) : PySem.W.Hook where
  α := AlO
  obs := fun s => obsO n fa fn cs ex s.heap.get?
  val := fun _ => ((He.valD fn, true), cs.map IniD.val)
  says := fun _ h => ∃ K : PySem.W.Frag, K.In h ∧ He.SaysD fa fn K ∧ noLst K = true ∧ ex K = true ∧ (cs.map fun d => iniW K d.n) = cs.map IniD.val
  of := fun _ _ e => ⟨_, He.frG_in, congrArg (fun z : AlO => z.1.1) e, (ba2 (congrArg (fun z : AlO => z.1.2) e)).1, (ba2 (congrArg (fun z : AlO => z.1.2) e)).2, congrArg (fun z : AlO => z.2) e⟩
  keeps := fun _ _ _ ⟨K, hK, c⟩ k => ⟨K, PySem.W.Frag.In.keeps hK k, c⟩
theorem obsO_eq {n : Nat} {fa : List He.Fa} {fn : List He.DefD} {cs : List IniD} {ex : Fr → Bool} {g : Addr → Option Obj} {s : Shared} (h : ∀ a, g a = s.heap.get? a) : obsO n fa fn cs ex g = (hookO n fa fn cs ex).obs s := by
  have e : g = s.heap.get? := funext h
  rw [e] <;> rfl
theorem iniW_at {K : Fr} {cs : List IniD} (h : (cs.map fun d => iniW K d.n) = cs.map IniD.val) (i : Nat) {d : IniD} (e : cs[i]? = some d) : iniW K d.n = d.val := by
  have := congrArg (fun l => l[i]?) h
  simpa [e] using this
end PM
/-! ### slices that go backwards -/
namespace PM
open PySem L2 PySem.Spec PyProof.Rows
open PySem.W (krv_range krv_all krv_sliceRange krv_pick krv_bounds)
/-- what x[:up:-1] does -/
def RvR (X : Cx) (up : Option Int) (r : V → Hp → VK → Prop) : Prop := ∀ (pins : List (Addr × Obj)) (s : Shared) (σ : L2.St) (H : Hp) (x : V) (v vl vu vs : Value) (sl : Addr) (Q : VK), Inv X pins σ H s → RelV x v → s.heap.IsSliceOf sl vl vu vs → IsPart vl none → IsPart vu up → IsPart vs (some (-1)) → r x H Q →
  ∃ T id, typeLookup (.type T) "__getitem__" = pure (some (.builtin id)) ∧ s.TypeIs v T ∧ wpAny (model X.prog X.w) X.A (getItem v (.ref sl)) (EP X pins σ Q) X.xe s
theorem RvR.or {X : Cx} {up : Option Int} {r r' : V → Hp → VK → Prop} (h : RvR X up r) (h' : RvR X up r') : RvR X up (fun x H Q => r x H Q ∨ r' x H Q) := fun pins s σ H x v vl vu vs sl Q I rx hs p1 p2 p3 k => by
  rcases k with k | k
  · exact h pins s σ H x v vl vu vs sl Q I rx hs p1 p2 p3 k
  · exact h' pins s σ H x v vl vu vs sl Q I rx hs p1 p2 p3 k
theorem pe_rv {X : Cx} {up : Option Int} {r : V → Hp → VK → Prop} {e : Expr} {hi : Option Expr} {te : TE} {k : Nat} {p1 p2 p3 pos : Pos} (hr : RvR X up r) (he : PE X e te) (hu : PO X hi (fun _ H Q => Q up H)) :
    PE X (.Subscript e (.Slice none hi (some (.UnaryOp .USub (.Constant (.int 1) k p1) p2)) p3) pos) (fun σ H Q => te σ H fun x H1 => r x H1 Q) := by
  refine ⟨fun pins s σ H Q I h => ?_⟩
  refine Subscript_ (thn (he.run pins s σ H _ I h) fun v s1 ⟨x, H1, I1, r1, q1⟩ => ?_)
  have hst : PO X (some (.UnaryOp .USub (.Constant (.int 1) k p1) p2)) (tPart (tUn (rU fun i => .int (-i)) (tC (.int 1)))) := po_some (pe_un un_neg pe_int)
  refine wpAny_Slice (thn (po_none.run pins s1 σ H1 (fun o H2 => o = none ∧ H2 = H1) I1 ⟨rfl, rfl⟩) fun vl s2 ⟨l, H2, I2, pl, el, e2⟩ => ?_)
  subst el e2
  refine thn (hu.run pins s2 σ H2 (fun o H3 => o = up ∧ H3 = H2) I2 ⟨rfl, rfl⟩) fun vu s3 ⟨u, H3, I3, pu, eu, e3⟩ => ?_
  subst eu e3
  refine thn (hst.run pins s3 σ H3 (fun o H4 => o = some (-1) ∧ H4 = H3) I3 ⟨1, rfl, -1, rfl, rfl, rfl⟩) fun vs s4 ⟨o, H4, I4, ps, eo, e4⟩ => ?_
  subst eo e4
  have I5 : Inv X pins σ H4 { s4 with heap := s4.heap.push { cls := .type "slice", data := .fields #[vl, vu, vs] } } := I4.kept (t' := s4.toks) fun b ob q => Heap.get?_push_of_some _ q
  obtain ⟨T, id, hT, ht, hg⟩ := hr pins { s4 with heap := s4.heap.push { cls := .type "slice", data := .fields #[vl, vu, vs] } } σ H4 x v vl vu vs s4.heap.objs.size Q I5 r1 (Heap.IsSliceOf.new ..) pl pu ps q1
  show wpAny (model X.prog X.w) X.A (subscriptTail e (.Slice none hi (some (.UnaryOp .USub (.Constant (.int 1) k p1) p2)) p3) v (.ref s4.heap.objs.size)) (EP X pins σ Q) X.xe { s4 with heap := s4.heap.push { cls := .type "slice", data := .fields #[vl, vu, vs] } }
  exact tail_any (ops := [v, .ref s4.heap.objs.size]) ht hT hg (by with_unfolding_all rfl)
def rRvL (K : Fr) : V → Hp → VK → Prop := fun x H Q => ∃ a xs, x = .ref a ∧ Rd H a (.lst xs) ∧ ∀ p, H p = none → Q (.ref p) (L2.upd H p (.lst xs.reverse))
theorem rv_list {X : Cx} : RvR X none (rRvL X.K) := by
  intro pins s σ H x v vl vu vs sl Q I rx hs p1 p2 p3 h
  obtain ⟨a, xs, rfl, hx, q⟩ := h
  cases rx
  obtain ⟨hz, its, n, r, hl, e⟩ := I.lstR hx
  have ht : PySem.Heap.IsList s.heap a its.toArray := ⟨_, e, rfl, _, rfl⟩
  refine ⟨"list", _, PySem.slot_list_getitem.lookup, ht.typeIs, ?_⟩
  refine wpAny_getItem_list_slice ht hs p1 p2 p3 (by decide) ?_ (by rw [List.size_toArray]; omega)
  rw [krv_pick]
  refine ⟨.ref _, _, I.laid (t' := s.toks) (o := .lst xs.reverse) (fun b ob q => Heap.get?_push_of_some _ q) (Nat.le_refl _) ?_, rfl, q _ (I.hok.fresh (Nat.le_refl _))⟩
  exact ⟨by rw [List.length_reverse]; exact hz, _, 0, r.reverse, Heap.get?_push_size _ rfl⟩
def rRvS : V → Hp → VK → Prop := fun x H Q => ∃ s, x = .str (st s) ∧ s.length ≤ sizeLine ∧ Q (.str (st s.reverse)) H
theorem rv_str {X : Cx} : RvR X none rRvS := by
  intro pins s σ H x v vl vu vs sl Q I rx hs p1 p2 p3 h
  obtain ⟨z, rfl, hz, q⟩ := h
  obtain ⟨t, rfl⟩ := rx
  obtain ⟨os, hos, hcs, hds⟩ := hs
  obtain ⟨l, e1, e1'⟩ := IsPart.raw p1
  obtain ⟨u, e2, e2'⟩ := IsPart.raw p2
  obtain ⟨w, e3, e3'⟩ := IsPart.raw p3
  subst e1 e2 e3
  refine ⟨"str", _, F.slot_str_getitem.lookup, typeIs_str _ _ _, ?_⟩
  refine wpAny_getItem_str_slice (l := l) (u := u) (st := w) ⟨os, hos, hcs, hds⟩ (by rw [e3']; decide) ?_
  have hlen : (st z).length = z.length := by simp [st, Str.length]
  have hp : slicePicked (st z) l u w = (List.range z.length).map fun k => z.length - 1 - k := by
    unfold slicePicked
    rw [e1', e2', e3', hlen]
    exact krv_sliceRange z.length
  have hall : (List.filterMap (fun i => (st z).cps[i]?) (slicePicked (st z) l u w)).toArray = z.reverse.toArray := by
    rw [hp]
    have := krv_range z.length
    rw [this, List.filterMap_reverse]
    have := krv_all z.toArray
    rw [List.size_toArray] at this
    show (List.filterMap (fun i => z.toArray[i]?) (List.range z.length)).reverse.toArray = _
    rw [this]
  show Made.post (if ((w.map (·.1)).getD 1 == 1 && (slicePicked (st z) l u w).length == (st z).length) = true then Made.val (.str (st z) t) else Made.str ⟨(List.filterMap (fun i => (st z).cps[i]?) (slicePicked (st z) l u w)).toArray⟩) (EP X pins σ Q) s
  rw [if_neg (by rw [e3']; simp), hall]
  refine ⟨?_, .str (st z.reverse), H, I.tok _, ⟨_, rfl⟩, q⟩
  show (st z.reverse).length ≤ sizeLine
  simp [st, Str.length]
  exact hz
/-- the places of a tuple's backward slice -/
theorem adj_back (n : Nat) : Builtin.Slice.sliceAdjust none none (-1) (n : Int) = ((n : Int) - 1, -1) := by
  unfold Builtin.Slice.sliceAdjust
  simp
theorem adj_back0 {n : Nat} (h : 0 < n) : Builtin.Slice.sliceAdjust none (some 0) (-1) (n : Int) = ((n : Int) - 1, 0) := by
  unfold Builtin.Slice.sliceAdjust
  simp
  omega
theorem plc_back (a b : Int) : Builtin.Slice.slicePlaces a b (-1) = (a - b).toNat := by
  unfold Builtin.Slice.slicePlaces
  simp
  split <;> omega
theorem pick_back (xs : Array Value) : ∀ (k i : Nat), k ≤ i + 1 → i < xs.size → (List.range k).filterMap (fun (m : Nat) => xs[((i : Int) + (m : Int) * (-1)).toNat]?) = ((xs.toList.take (i + 1)).drop (i + 1 - k)).reverse := by
  intro k
  induction k with
  | zero =>
    intro i _ hi
    rw [List.range_zero, List.filterMap_nil, Nat.sub_zero, List.drop_eq_nil_of_le (by rw [List.length_take]; omega)]
    rfl
  | succ k ih =>
    intro i hk hi
    rw [List.range_succ, List.filterMap_append, ih i (by omega) hi]
    have e : ((i : Int) + (k : Int) * (-1)).toNat = i - k := by omega
    have hl : i - k < xs.toList.length := by rw [Array.length_toList]; omega
    have h1 : List.filterMap (fun (m : Nat) => xs[((i : Int) + (m : Int) * (-1)).toNat]?) [k] = [xs.toList[i - k]] := by
      rw [List.filterMap_cons, e]
      rw [Array.getElem?_eq_getElem (by omega)]
      simp
    rw [h1]
    have h2 : (xs.toList.take (i + 1)).drop (i + 1 - (k + 1)) = xs.toList[i - k] :: (xs.toList.take (i + 1)).drop (i + 1 - k) := by
      have hlt : i + 1 - (k + 1) < (xs.toList.take (i + 1)).length := by rw [List.length_take]; omega
      rw [List.drop_eq_getElem_cons hlt]
      have : i + 1 - (k + 1) + 1 = i + 1 - k := by omega
      rw [this]
      congr 1
      rw [List.getElem_take]
      congr 1
      omega
    rw [h2, List.reverse_cons]
theorem sliceApplied_back {prog : Program} {w : World} {A : Around} {E : Value → Shared → Prop} {s : Shared} {sl : Addr} {vl vu vs : Value} {up : Option Int} {n : Nat} {Q : Int × Int × Nat → Shared → Prop} (hs : s.heap.IsSliceOf sl vl vu vs) (pl : IsPart vl none) (pu : IsPart vu up) (ps : IsPart vs (some (-1)))
    (h : Q ((Builtin.Slice.sliceAdjust none up (-1) (n : Int)).1, -1, Builtin.Slice.slicePlaces (Builtin.Slice.sliceAdjust none up (-1) (n : Int)).1 (Builtin.Slice.sliceAdjust none up (-1) (n : Int)).2 (-1)) s) : wpAny (model prog w) A (Builtin.Slice.sliceApplied (.ref sl) (pure (n : Int))) Q E s := by
  obtain ⟨os, hos, hcs, hds⟩ := id hs
  unfold Builtin.Slice.sliceApplied Builtin.Slice.sliceFields
  refine wpAny_bind (wpAny_bind (wpAny_field hos hds (x := vl) rfl (wpAny_bind (wpAny_field hos hds (x := vu) rfl (wpAny_bind (wpAny_field hos hds (x := vs) rfl (wpAny_pure ?_)))))))
  refine wpAny_bind (HT.slicePart_ ps ?_)
  show wpAny _ _ (if ((-1 : Int) == 0) = true then _ else _) _ _ s
  rw [if_neg (by decide)]
  refine wpAny_bind (HT.slicePart_ pl (wpAny_bind (HT.slicePart_ pu (wpAny_bind (wpAny_pure ?_)))))
  show wpAny _ _ (match Builtin.Slice.sliceAdjust none up (-1) (n : Int) with | (lo, hi) => pure (lo, (-1 : Int), Builtin.Slice.slicePlaces lo hi (-1))) _ _ s
  generalize Builtin.Slice.sliceAdjust none up (-1) (n : Int) = lh at h
  obtain ⟨lo, hi⟩ := lh
  exact wpAny_pure h
def rRvT (K : Fr) : V → Hp → VK → Prop := fun x H Q => ∃ a xs, x = .ref a ∧ SqT K H a xs ∧ ∀ p, H p = none → Q (.ref p) (L2.upd H p (.tup xs.reverse))
def rRv0 (K : Fr) : V → Hp → VK → Prop := fun x H Q => ∃ a xs, x = .ref a ∧ SqT K H a xs ∧ xs ≠ [] ∧ ∀ p, H p = none → Q (.ref p) (L2.upd H p (.tup (xs.drop 1).reverse))
theorem getItem_back {prog : Program} {w : World} {A : Around} {E : Value → Shared → Prop} {s : Shared} {t sl : Addr} {items : Array Value} {vl vu vs : Value} {up : Option Int} {out : List Value} {Q : Value → Shared → Prop} (ht : IsTup s.heap t items) (hs : s.heap.IsSliceOf sl vl vu vs) (pl : IsPart vl none) (pu : IsPart vu up) (ps : IsPart vs (some (-1)))
    (ho : ((List.range (Builtin.Slice.slicePlaces (Builtin.Slice.sliceAdjust none up (-1) (items.size : Int)).1 (Builtin.Slice.sliceAdjust none up (-1) (items.size : Int)).2 (-1))).filterMap fun (m : Nat) => items[((Builtin.Slice.sliceAdjust none up (-1) (items.size : Int)).1 + (m : Int) * (-1)).toNat]?) = out) (hz : out.length ≤ sizeLine)
    (h : Q (.ref s.heap.objs.size) { s with heap := s.heap.push { cls := .type "tuple", data := .seq out.toArray } }) : wpAny (model prog w) A (getItem (.ref t) (.ref sl)) Q E s := by
  have htake : sizeOk (.seq out.toArray) := by
    show out.toArray.size ≤ sizeLine
    rw [List.size_toArray]
    exact hz
  obtain ⟨os, hos, hcs, hds⟩ := id hs
  have hTs : s.TypeIs (.ref sl) "slice" := ⟨os, hos, hcs⟩
  unfold getItem
  try with_reducible refine wpAny_holding ?_
  first | refine wpAny_bind (wpAny_pure ?_) | skip
  refine wpAny_bind (wpAny_sequenceKey ht.typeIs (by decide) ?_)
  refine wpAny_bind (wpAny_callSpecial?_slot (name := Str.ofString "__getitem__") ht.typeIs PyProof.Rows.slot_tuple_getitem
    (wpAny_call_entry PyProof.Rows.slot_tuple_getitem ht.typeIs entry_tuple_getitem ?_ (args_tuple_getitem _ _)))
  show wpAny _ _ (Builtin.Tuple.tupleItemsOf (.ref t) >>= _) _ _ s
  refine wpAny_bind (tupleItemsOf_ ht ?_)
  refine wpAny_bind (wpAny_typeOf hTs ?_)
  rw [if_pos (by decide)]
  refine wpAny_bind (sliceApplied_back hs pl pu ps ?_)
  generalize Builtin.Slice.sliceAdjust none up (-1) (items.size : Int) = lh at *
  have hno : ¬ ((lh.1 == 0 && (-1 : Int) == 1 && Builtin.Slice.slicePlaces lh.1 lh.2 (-1) == items.size) = true) := by
    intro q
    rw [Bool.and_eq_true, Bool.and_eq_true] at q
    exact absurd q.1.2 (by decide)
  show wpAny _ _ (if (lh.1 == 0 && (-1 : Int) == 1 && Builtin.Slice.slicePlaces lh.1 lh.2 (-1) == items.size) = true then _ else _) _ _ s
  rw [if_neg hno]
  have ho2 : ((List.range (Builtin.Slice.slicePlaces lh.1 lh.2 (-1))).filterMap fun (m : Nat) => items[(lh.1 + (m : Int) * (-1)).toNat]?).toArray = out.toArray := by rw [ho]
  rw [ho2]
  first
    | exact wpAny_bind (m := Builtin.Tuple.tupleExact _) (wpAny_newObj_type (wpAny_pure ⟨_, rfl, wpAny_pure h⟩) htake)
    | exact wpAny_bind (m := Builtin.Tuple.tupleExact _) (wpAny_newObj_type (wpAny_bind (wpAny_pure (wpAny_pure ⟨_, rfl, wpAny_pure h⟩))) htake)
    | exact wpAny_bind (wpAny_bind (m := Builtin.Tuple.tupleExact _) (wpAny_newObj_type (wpAny_pure (wpAny_pure ⟨_, rfl, wpAny_pure h⟩)) htake))
    | exact wpAny_bind (wpAny_bind (m := Builtin.Tuple.tupleExact _) (wpAny_newObj_type (wpAny_pure ⟨_, rfl, wpAny_pure h⟩) htake))
theorem out_back (items : Array Value) : ((List.range (Builtin.Slice.slicePlaces (Builtin.Slice.sliceAdjust none none (-1) (items.size : Int)).1 (Builtin.Slice.sliceAdjust none none (-1) (items.size : Int)).2 (-1))).filterMap fun (m : Nat) => items[((Builtin.Slice.sliceAdjust none none (-1) (items.size : Int)).1 + (m : Int) * (-1)).toNat]?) = items.toList.reverse := by
  rw [adj_back, plc_back]
  by_cases h : items.size = 0
  · have : items = #[] := Array.eq_empty_of_size_eq_zero h
    subst this
    rfl
  · have e : ((items.size : Int) - 1 - -1).toNat = items.size := by omega
    have e2 : ((items.size : Int) - 1) = ((items.size - 1 : Nat) : Int) := by omega
    rw [e, e2, pick_back items items.size (items.size - 1) (by omega) (by omega)]
    rw [show items.size - 1 + 1 = items.size by omega, Nat.sub_self, List.drop_zero, List.take_of_length_le (by rw [Array.length_toList]; exact Nat.le_refl _)]
theorem out_back0 (items : Array Value) (h : 0 < items.size) : ((List.range (Builtin.Slice.slicePlaces (Builtin.Slice.sliceAdjust none (some 0) (-1) (items.size : Int)).1 (Builtin.Slice.sliceAdjust none (some 0) (-1) (items.size : Int)).2 (-1))).filterMap fun (m : Nat) => items[((Builtin.Slice.sliceAdjust none (some 0) (-1) (items.size : Int)).1 + (m : Int) * (-1)).toNat]?) = (items.toList.drop 1).reverse := by
  rw [adj_back0 h, plc_back]
  have e : ((items.size : Int) - 1 - 0).toNat = items.size - 1 := by omega
  have e2 : ((items.size : Int) - 1) = ((items.size - 1 : Nat) : Int) := by omega
  rw [e, e2, pick_back items (items.size - 1) (items.size - 1) (by omega) (by omega)]
  rw [show items.size - 1 + 1 = items.size by omega, show items.size - (items.size - 1) = 1 by omega, List.take_of_length_le (by rw [Array.length_toList]; exact Nat.le_refl _)]
theorem rv_tup {X : Cx} : RvR X none (rRvT X.K) := by
  intro pins s σ H x v vl vu vs sl Q I rx hs p1 p2 p3 h
  obtain ⟨a, xs, rfl, hx, q⟩ := h
  cases rx
  obtain ⟨its, r, ht, hz⟩ := I.tuple hx
  refine ⟨"tuple", _, PyProof.Rows.slot_tuple_getitem.lookup, ht.typeIs, ?_⟩
  refine getItem_back ht hs p1 p2 p3 (out_back its.toArray) (by rw [List.length_reverse, ← r.length]; exact hz) ?_
  refine ⟨.ref _, _, I.laid (t' := s.toks) (o := .tup xs.reverse) (fun b ob q => Heap.get?_push_of_some _ q) (Nat.le_refl _) ?_, rfl, q _ (I.hok.fresh (Nat.le_refl _))⟩
  exact ⟨by rw [List.length_reverse]; exact hz, _, r.reverse, IsTup.new _ _⟩
theorem rv_tup0 {X : Cx} : RvR X (some 0) (rRv0 X.K) := by
  intro pins s σ H x v vl vu vs sl Q I rx hs p1 p2 p3 h
  obtain ⟨a, xs, rfl, hx, hne, q⟩ := h
  cases rx
  obtain ⟨its, r, ht, hz⟩ := I.tuple hx
  have hpos : 0 < its.toArray.size := by
    rw [List.size_toArray, ← r.length]
    exact List.length_pos_iff.mpr hne
  refine ⟨"tuple", _, PyProof.Rows.slot_tuple_getitem.lookup, ht.typeIs, ?_⟩
  refine getItem_back ht hs p1 p2 p3 (out_back0 its.toArray hpos) (by rw [List.length_reverse, List.length_drop, ← r.length]; omega) ?_
  refine ⟨.ref _, _, I.laid (t' := s.toks) (o := .tup (xs.drop 1).reverse) (fun b ob q => Heap.get?_push_of_some _ q) (Nat.le_refl _) ?_, rfl, q _ (I.hok.fresh (Nat.le_refl _))⟩
  exact ⟨by rw [List.length_reverse, List.length_drop]; omega, _, (r.drop 1).reverse, IsTup.new _ _⟩
/-! ### on data -/
theorem Reps.reverse {K : Fr} {F : Hp} : ∀ {ds : List D} {vs : List V}, Reps K F ds vs → Reps K F ds.reverse vs.reverse
  | [], vs, h => by rw [h.inv0]; exact Reps.nil
  | d :: ds, vs, h => by
    obtain ⟨v, r, rfl, k1, k2⟩ := h.inv
    rw [List.reverse_cons, List.reverse_cons]
    exact k2.reverse.append (Reps.cons k1 Reps.nil)
def revD : D → Option Slot
  | .lst xs => some (true, .lst xs.reverse)
  | .tup xs => some (false, .tup xs.reverse)
  | .str s => if s.length ≤ sizeLine then some (false, .str s.reverse) else none
  | _ => none
def rev0D : D → Option Slot
  | .tup (x :: xs) => some (false, .tup xs.reverse)
  | _ => none
def rRvA (K : Fr) : V → Hp → VK → Prop := fun x H Q => rRvL K x H Q ∨ (rRvT K x H Q ∨ rRvS x H Q)
section
variable {X : Cx} {c : Ct} {e : Expr} {p1 p2 p3 pos : Pos} {k : Nat} {A : M D}
theorem e_rev (hk : c.K = X.K) (he : PE X e (tP c A)) : PE X (.Subscript e (.Slice none none (some (.UnaryOp .USub (.Constant (.int 1) k p1) p2)) p3) pos) (tE c (una revD A)) := by
  refine (pe_rv (r := rRvA X.K) (RvR.or rv_list (RvR.or rv_tup rv_str)) he po_none).imp fun σ H Q ⟨F, ρ, S, a⟩ => ⟨F, ρ, S, a.step fun d ρ1 x F1 H1 S1 r1 f1 h1 a1 => ?_⟩
  obtain ⟨s, e, q⟩ := a1.lift S1
  unfold revD at e
  split at e
  · cases e
    obtain ⟨p, vs, rfl, g1, g2⟩ := r1
    exact .inl ⟨p, vs, rfl, g1, fun p hp => vnL S1.fh hp g2.reverse q⟩
  · cases e
    obtain ⟨p, vs, rfl, g1, g2⟩ := pkTup r1
    exact .inr (.inl ⟨p, vs, rfl, hk ▸ S1.fh.sqT g1, fun p hp => vnT S1.fh hp g2.reverse q⟩)
  · split at e
    · cases e
      rename_i hz
      exact .inr (.inr ⟨_, r1, hz, vnS S1.fh q⟩)
    · cases e
  · cases e
theorem e_rev0 {j : Nat} {p4 : Pos} (hk : c.K = X.K) (he : PE X e (tP c A)) : PE X (.Subscript e (.Slice none (some (.Constant (.int 0) j p4)) (some (.UnaryOp .USub (.Constant (.int 1) k p1) p2)) p3) pos) (tE c (una rev0D A)) := by
  refine (pe_rv (r := rRv0 X.K) rv_tup0 he (⟨fun pins s σ H Q I h => (po_some pe_int).run pins s σ H Q I ⟨0, rfl, h⟩⟩)).imp fun σ H Q ⟨F, ρ, S, a⟩ => ⟨F, ρ, S, a.step fun d ρ1 x F1 H1 S1 r1 f1 h1 a1 => ?_⟩
  obtain ⟨s, e, q⟩ := a1.lift S1
  unfold rev0D at e
  split at e
  · cases e
    obtain ⟨p, vs, rfl, g1, g2⟩ := pkTup r1
    obtain ⟨v, r, rfl, g3, g4⟩ := g2.inv
    exact ⟨p, _, rfl, hk ▸ S1.fh.sqT g1, by simp, fun p hp => vnT S1.fh hp g4.reverse q⟩
  · cases e
end
end PM
/-! ### extend, range with a step, an empty dict -/
namespace PM
open PySem L2 PySem.Spec PyProof.Rows
def extS (j : Nat) (A : M Slot) : SM := fun ρ => match ρ[j]? with
  | some (some (true, .lst _)) => (A.thenS fun s ρ2 => match s, ρ2[j]? with
    | (true, .lst zs), some (some (true, .lst xs)) => if xs.length + zs.length ≤ sizeLine then .nx (ρ2.set j (some (true, .lst (xs ++ zs)))) else .bad
    | _, _ => .bad) ρ
  | _ => .bad
section
variable {X : Cx} {c : Ct} {e : Expr} {pos p : Pos} {tg : Expr}
theorem s_ext {j : Nat} {x : Str} {A : M Slot} {px apos cpos : Pos} (hK : c.K = X.K) (hx : PE X (.Name x px) (tVar j)) (he : PE X e (tE c A))
    (hsw : swapsWith (.Call (.Attribute (.Name x px) "extend" apos) [e] [] cpos) none pos.line X.env = pure false := by rfl)
    (hbase : attributeBase (.Name x px) "extend" X.env (eval (.Name x px) X.env) = eval (.Name x px) X.env := by rfl)
    (hfew : ((backTo cpos (starEach [e] X.env)).all (fun x => !x.1) && (backToKw cpos (keywordEach [] X.env)).all (fun x => x.1.isSome)
      && decide ([e].length + ([] : List Keyword).length + (if ([] : List Keyword).isEmpty then 0 else 1) < 30)) = true := by rfl)
    (hline : (apos.endLine == cpos.line) = true := by rfl) (hs : starEach [e] X.env = (false, eval e X.env) :: starEach [] X.env := by rfl) (hplain : (backTo cpos (starEach [] X.env)).any (·.1) = false := by rfl) :
    PS X (.Expr (.Call (.Attribute (.Name x px) "extend" apos) [e] [] cpos) pos) (tS c (extS j A)) := by
  refine (ps_expr (pe_bm PySem.F.plainAttrs_list PySem.F.slot_list_extend PySem.F.type_list_extend mt_extend hx (pa_cons he pa_nil hs) hbase hfew hline hs hplain) hsw).imp fun D σ H ⟨F, ρ, S, k⟩ => ?_
  unfold extS at k
  split at k
  · rename_i ys e0
    obtain ⟨u, e1, p, rfl, _, _, us, hu, ru⟩ := S.sl j _ e0
    refine ⟨.ref p, e1, .inl ⟨rfl, us, .inl (.inl hu)⟩, F, ρ, S, k.step fun s ρ2 v F2 H2 S2 r2 f2 h2 a2 => ?_⟩
    split at a2
    · rename_i zs xs e2
      split at a2
      · rename_i hz
        obtain ⟨⟨b, rfl, fb, bb, vs2, hb, rb⟩, hne⟩ := r2
        obtain ⟨u', e3, p', ep, _, _, us2, hu2, ru2⟩ := S2.sl j _ e2
        rw [e1] at e3; cases e3; cases ep
        refine ⟨p, b, us2, vs2, rfl, rfl, hu2, hb, by rw [← ru2.length, ← rb.length]; exact hz, ?_⟩
        exact a2 σ F2 _ (S2.upd e2 e1 ⟨_, upd_same, ru2.append rb⟩)
      · exact a2.elim
    · exact a2.elim
  · exact k.elim
/-- range(i, j, c) -/
def intsC (lo c : Int) (n : Nat) : List D := (List.range n).map fun (i : Nat) => D.int (lo + (i : Int) * c)
theorem jok_rangeC {K : Fr} {C F1 : Hp} {lo c : Int} {n : Nat} : JOk K C F1 (Itc lo c n) (intsC lo c n) where
  go := fun i H h hi => by
    show i < n
    simpa [intsC] using hi
  yld := fun i F H x H' h f fh hi y => by
    obtain ⟨rfl, rfl⟩ := y
    have hi : i < n := by simpa [intsC] using hi
    exact ⟨F, .int (lo + i * c), Grow.refl fh, by unfold intsC; rw [List.getElem?_map, List.getElem?_range hi]; rfl, rfl⟩
  stop := fun i H h hi => by
    show n ≤ i
    simpa [intsC] using hi
def rgOk (i j c : Int) : Bool := decide (c ≠ 0) && (decide (c.natAbs < 1073741824) && (Builtin.Range.small i j c && decide (0 ≤ Builtin.Range.rangeSize i j c)))
def rng3 (R : M (List D)) : M (List D) := R.bind fun ds => M.lift (match ds with | [.int i, .int j, .int c] => if rgOk i j c = true then some (intsC i c (Builtin.Range.rangeSize i j c).toNat) else none | _ => none)
theorem PkRs.three {K : Fr} {F H : Hp} {d d' d'' : D} {xs : List V} (h : PkRs K F H [d, d', d''] xs) : ∃ x y z, xs = [x, y, z] ∧ PkR K F H d x ∧ PkR K F H d' y ∧ PkR K F H d'' z := by
  obtain ⟨v, r, rfl, k, h2⟩ := h
  obtain ⟨y, z, rfl, k2, k3⟩ := PkRs.two h2
  exact ⟨v, y, z, rfl, k, k2, k3⟩
theorem rng3_tr {R : M (List D)} {Rel : Hp → Hp → L2.St → Env → List D → It → Prop} (hR : ∀ F H σ ρ lo c n, Rel F H σ ρ (intsC lo c n) (Itc lo c n)) {σ : L2.St} {H : Hp} {Q : It → Hp → Prop} (h : tG c Rel (rng3 R) σ H Q) : iRng3 (tPs c R) σ H Q := by
  obtain ⟨F, ρ, S, k⟩ := h
  refine ⟨F, ρ, S, k.step fun ds ρ1 xs F1 H1 S1 r1 f1 h1 a1 => ?_⟩
  obtain ⟨as, e, q⟩ := a1.liftA S1
  split at e
  · split at e
    · cases e
      rename_i hj
      obtain ⟨x, y, z, rfl, r2, r3, r4⟩ := PkRs.three r1
      have r2 : x = .int _ := r2
      have r3 : y = .int _ := r3
      have r4 : z = .int _ := r4
      subst r2 r3 r4
      obtain ⟨g1, g2⟩ := ba2 hj
      obtain ⟨g3, g4⟩ := ba2 g2
      obtain ⟨g5, g6⟩ := ba2 g4
      exact ⟨_, _, _, _, rfl, ⟨of_decide_eq_true g1, of_decide_eq_true g3, g5, (Int.toNat_of_nonneg (of_decide_eq_true g6)).symm⟩, q _ F1 H1 (Grow.refl S1.fh) (hR _ _ _ _ _ _ _)⟩
    · cases e
  · cases e
theorem j_rng3 {R : M (List D)} {a b d : Expr} (hg : Gl X "range") (hm : X.mg "range" = none) (ha : PA X [a, b, d] (tPs c R)) (hs : starEach [a, b, d] X.env = (false, eval a X.env) :: starEach [b, d] X.env := by rfl) (hs2 : (backTo pos (starEach [b, d] X.env)).any (·.1) = false := by rfl) :
    PI X tg (.Call (.Name "range" p) [a, b, d] [] pos) (tJ c (rng3 R)) := (pi_range3 hg hm ha hs hs2).imp fun _ _ _ h => rng3_tr (fun _ _ _ _ _ _ _ => jok_rangeC) h
theorem k_rng3 {R : M (List D)} {a b d : Expr} (hg : Gl X "range") (hm : X.mg "range" = none) (ha : PA X [a, b, d] (tPs c R)) (hs : starEach [a, b, d] X.env = (false, eval a X.env) :: starEach [b, d] X.env := by rfl) (hs2 : (backTo pos (starEach [b, d] X.env)).any (·.1) = false := by rfl) :
    PI X tg (.Call (.Name "range" p) [a, b, d] [] pos) (tK c (rng3 R)) := (pi_range3 hg hm ha hs hs2).imp fun _ _ _ h => rng3_tr (fun _ _ _ _ _ _ _ => jok_rangeC) h
/-- {} -/
theorem e_dict0 : PE X (.Dict [] [] pos) (tE c (PM.ret (true, .dic [] []))) := pe_dnewK.imp fun σ H Q ⟨F, ρ, S, k⟩ => fun a ha => by
  refine k (.ref a) F _ (S.grow (F' := F) (H' := L2.upd H a (.dK [])) ⟨Sub.refl _, Sub.upd ha, S.fh.trans (Sub.upd ha), fun _ _ e => .inl e⟩) (Sub.refl _) (Sub.upd ha) ?_
  refine VN.vr (c := c) (H := H) (F := F) ⟨a, rfl, ha, S.fh.none ha, [], upd_same, rfl, Reps.nil⟩ S
end
end PM
/-! ### x ** 2 of a great x, math.isqrt -/
namespace PM
open PySem L2 PySem.Spec PyProof.Rows PySem.Calls
def CPow2 (i j : Int) : Prop := j = 2 ∧ i.natAbs.log2 < 1000000
def pow2D : D → D → Option Slot
  | .int i, .int j => if j = 2 ∧ i.natAbs.log2 < 1000000 then some (false, .int (i * i)) else none
  | _, _ => none
section
variable {X : Cx} {K : Fr}
theorem op_pow2 : OpR X (binaryOp .Pow) (rI CPow2 fun i j => .int (i * i)) := opI fun i j t u s Q E hc q => by
  obtain ⟨rfl, h⟩ := hc
  refine pow_int (by decide) ?_ ?_
  · unfold Builtin.Int.intBits
    split
    · decide
    · omega
  · have e : i ^ (2 : Int).toNat = i * i := by show i ^ 2 = _; rw [Int.pow_succ, Int.pow_succ, Int.pow_zero, Int.one_mul]
    rw [e]
    exact q
theorem ok_pow2 : OpOk K pow2D (rI CPow2 fun i j => .int (i * i)) := by
  intro F H d1 d2 x y s Q fh r1 r2 e k
  unfold pow2D at e
  split at e
  · split at e
    · cases e
      rename_i hm
      exact ⟨_, _, r1, r2, hm, vnI fh k⟩
    · cases e
  · cases e
def rIsq : List V → Hp → VK → Prop := fun vs H Q => ∃ a : Int, vs = [.int a] ∧ (0 ≤ a ∧ a.natAbs.log2 < 10000) ∧ Q (.int ((Float64.isqrt a.toNat : Nat) : Int)) H
theorem cr_isqrt : CallR X (.builtin "math.isqrt") rIsq := by
  intro pins s σ H vs us Q I r h
  obtain ⟨a, rfl, ⟨h0, h1⟩, q⟩ := h
  obtain ⟨t, rfl⟩ : ∃ t, us = [Value.int a t] := by
    cases r with
    | cons r t =>
      cases t
      obtain ⟨t, rfl⟩ := r
      exact ⟨t, rfl⟩
  have e : a.toNat = a.natAbs := by omega
  have h1 : a.toNat.log2 < 10000 := by rw [e]; exact h1
  exact call_function_meets PySem.W.MGF.kind_isqrt PySem.W.MGF.plain_isqrt PySem.W.MGF.entry_isqrt (PySem.W.MGF.args_isqrt _) (PySem.W.mg_run_isqrt a t (by omega) (by omega) (by omega)).meets ⟨.int _, H, I.tok _, ⟨_, rfl⟩, q⟩
def isqD : List D → Option Slot
  | [.int i] => if 0 ≤ i ∧ i.natAbs.log2 < 10000 then some (false, .int ((Float64.isqrt i.toNat : Nat) : Int)) else none
  | _ => none
theorem ok_isqrt : CallOk K isqD rIsq := by
  intro F H ds xs s Q fh r e k
  unfold isqD at e
  split at e
  · split at e
    · cases e
      rename_i hm
      obtain ⟨x, rfl, r1⟩ := r.one
      have r1 : x = .int _ := r1
      subst r1
      exact ⟨_, rfl, hm, vnI fh k⟩
    · cases e
  · cases e
end

theorem root_step {n r k : Nat} (hk : 4 ≤ 4 ^ k) (hd : (4 ^ k) * (4 ^ k) ≤ 2 * n) (h1 : r * r ≤ n / 4 ^ k) (h2 : n / 4 ^ k < (r + 1) * (r + 1)) :
    let x := (r + 1) * 2 ^ k
    let y := (x + n / x) / 2
    (if y * y > n then y - 1 else y) * (if y * y > n then y - 1 else y) ≤ n ∧ n < ((if y * y > n then y - 1 else y) + 1) * ((if y * y > n then y - 1 else y) + 1) := by
  intro x y
  have e4 : 4 ^ k = 2 ^ k * 2 ^ k := by rw [show (4 : Nat) = 2 * 2 from rfl, Nat.mul_pow]
  have dp : 0 < 2 ^ k := Nat.two_pow_pos k
  rw [e4] at hk hd h1 h2
  have hx : x = r * 2 ^ k + 2 ^ k := by show (r + 1) * 2 ^ k = _; rw [Nat.add_mul, Nat.one_mul]
  have a1 : r * r * (2 ^ k * 2 ^ k) ≤ n := (Nat.le_div_iff_mul_le (Nat.mul_pos dp dp)).mp h1
  have a2 : n < (r + 1) * (r + 1) * (2 ^ k * 2 ^ k) := (Nat.div_lt_iff_lt_mul (Nat.mul_pos dp dp)).mp h2
  have xp : 0 < x := by omega
  generalize hdd : 2 ^ k = d at *
  have q1 : x * (n / x) ≤ n := Nat.mul_div_le n x
  have q2 : n < x * (n / x + 1) := Nat.lt_mul_div_succ n xp
  have y1 : x + n / x ≤ 2 * y + 1 := by show _ ≤ 2 * ((x + n / x) / 2) + 1; omega
  have y2 : 2 * y ≤ x + n / x := by show 2 * ((x + n / x) / 2) ≤ _; omega
  generalize n / x = q at *
  clear_value y
  have b1 : n < x * x := by
    have : x * x = (r + 1) * (r + 1) * (d * d) := by rw [hx]; grind
    omega
  clear_value x
  have hqx : q < x := by
    rcases Nat.lt_or_ge q x with h | h
    · exact h
    · have := Nat.mul_le_mul_left x h
      omega
  have hq : x ≤ q + 2 * d := by
    rcases Nat.lt_or_ge x (2 * d) with h | h
    · omega
    · -- x (x - 2d) ≤ n
      have : x * (x - 2 * d) ≤ r * r * (d * d) := by
        obtain ⟨e, rfl⟩ : ∃ e, x = e + 2 * d := ⟨x - 2 * d, by omega⟩
        have : r * d = e + d := by omega
        have e2 : r * r * (d * d) = (r * d) * (r * d) := by grind
        rw [e2, this, Nat.add_sub_cancel]
        have : (e + 2 * d) * e + d * d = (e + d) * (e + d) := by grind
        omega
      have h3 : x * (x - 2 * d) < x * (q + 1) := by omega
      have := Nat.lt_of_mul_lt_mul_left h3
      omega
  have big : d * d + 2 ≤ x + q + 1 := by
    rcases Nat.lt_or_ge (x + q + 1) (d * d + 2) with h | h
    · exfalso
      have h4 : x + q + 1 ≤ d * d + 1 := by omega
      have h5 := Nat.mul_le_mul h4 h4
      have h6 : 4 * (x * (q + 1)) ≤ (x + q + 1) * (x + q + 1) := by
        obtain ⟨e, rfl⟩ : ∃ e, x = q + 1 + e := ⟨x - (q + 1), by omega⟩
        have : (q + 1 + e + q + 1) * (q + 1 + e + q + 1) = 4 * ((q + 1 + e) * (q + 1)) + e * e := by grind
        omega
      generalize d * d = D at *
      have : (D + 1) * (D + 1) = D * D + 2 * D + 1 := by grind
      have h7 : D * D < 2 * D + 1 := by omega
      have : 4 * D ≤ D * D := Nat.mul_le_mul_right D hk
      omega
    · exact h
  have up : n < (y + 1) * (y + 1) := by
    have h6 : 4 * (x * (q + 1)) ≤ (x + q + 1) * (x + q + 1) := by
      obtain ⟨e, rfl⟩ : ∃ e, x = q + 1 + e := ⟨x - (q + 1), by omega⟩
      have : (q + 1 + e + q + 1) * (q + 1 + e + q + 1) = 4 * ((q + 1 + e) * (q + 1)) + e * e := by grind
      omega
    have h7 : x + q + 1 ≤ 2 * (y + 1) := by omega
    have h8 := Nat.mul_le_mul h7 h7
    have : 2 * (y + 1) * (2 * (y + 1)) = 4 * ((y + 1) * (y + 1)) := by grind
    omega
  split
  · rename_i hy
    obtain ⟨z, rfl⟩ : ∃ z, y = z + 1 := ⟨y - 1, by
      rcases Nat.eq_zero_or_pos y with h | h
      · rw [h] at hy; simp at hy
      · omega⟩
    rw [Nat.add_sub_cancel]
    refine ⟨?_, hy⟩
    rcases Nat.lt_or_ge n (z * z) with h | h
    · exfalso
      have i4 : (x + q) * (x + q) ≤ 4 * n + 4 * (d * d) := by
        obtain ⟨e, rfl⟩ : ∃ e, x = q + e := ⟨x - q, by omega⟩
        have he : e ≤ 2 * d := by omega
        have he2 := Nat.mul_le_mul he he
        have i2 : (q + e + q) * (q + e + q) = 4 * ((q + e) * q) + e * e := by grind
        have i3 : 2 * d * (2 * d) = 4 * (d * d) := by grind
        omega
      have hS : x + q = 2 * z + 2 ∨ x + q = 2 * z + 3 := by omega
      rcases hS with hS | hS
      · rw [hS] at i4
        have i1 : (2 * z + 2) * (2 * z + 2) = 4 * (z * z) + 8 * z + 4 := by grind
        omega
      · rw [hS] at i4
        have i1 : (2 * z + 3) * (2 * z + 3) = 4 * (z * z) + 12 * z + 9 := by grind
        omega
    · exact h
  · rename_i hy
    exact ⟨by omega, up⟩
theorem log_div {n k l : Nat} (h : n.log2 ≤ l + 1) (hk : 1 ≤ k) : (n / 4 ^ k).log2 ≤ l := by
  by_cases z : n / 4 ^ k = 0
  · rw [z]; simp
  · have h1 : n < 2 ^ (l + 2) := Nat.lt_of_lt_of_le Nat.lt_log2_self (Nat.pow_le_pow_right (by decide) (by omega))
    have h2 : n / 4 ^ k ≤ n / 4 := by
      have : 4 ^ 1 ≤ 4 ^ k := Nat.pow_le_pow_right (by decide) hk
      exact Nat.div_le_div_left (by simpa using this) (by decide)
    have h3 : n / 4 ^ k < 2 ^ (l + 1) := by
      rw [Nat.pow_succ, Nat.pow_succ] at h1
      rw [Nat.pow_succ]
      omega
    have := (Nat.log2_lt z).mpr h3
    omega
theorem root_ok : ∀ (l n : Nat), n.log2 ≤ l → Float64.rootByHalves l n * Float64.rootByHalves l n ≤ n ∧ n < (Float64.rootByHalves l n + 1) * (Float64.rootByHalves l n + 1) := by
  have small : ∀ n : Nat, n < 8 → Float64.rootBelow8 n * Float64.rootBelow8 n ≤ n ∧ n < (Float64.rootBelow8 n + 1) * (Float64.rootBelow8 n + 1) := by decide
  intro l
  induction l with
  | zero =>
    intro n h
    refine small n ?_
    by_cases z : n = 0
    · omega
    · have := Nat.lt_log2_self (n := n)
      have h0 : n.log2 = 0 := by omega
      rw [h0] at this
      omega
  | succ l ih =>
    intro n h
    unfold Float64.rootByHalves
    by_cases h8 : n < 8
    · rw [if_pos h8]
      exact small n h8
    · rw [if_neg h8]
      have hlog : 3 ≤ n.log2 := by
        rcases Nat.lt_or_ge n.log2 3 with z | z
        · have := (Nat.log2_lt (n := n) (k := 3) (by omega)).mp z
          omega
        · exact z
      have hk : 1 ≤ (n.log2 + 1) / 4 := by omega
      have i := ih (n / 4 ^ ((n.log2 + 1) / 4)) (log_div h hk)
      refine root_step ?_ ?_ i.1 i.2
      · have : 4 ^ 1 ≤ 4 ^ ((n.log2 + 1) / 4) := Nat.pow_le_pow_right (by decide) hk
        simpa using this
      · have e : 4 ^ ((n.log2 + 1) / 4) * 4 ^ ((n.log2 + 1) / 4) = 2 ^ (4 * ((n.log2 + 1) / 4)) := by
          rw [Nat.pow_mul, ← Nat.mul_pow]
        rw [e]
        have h1 : 2 ^ (4 * ((n.log2 + 1) / 4)) ≤ 2 ^ (n.log2 + 1) := Nat.pow_le_pow_right (by decide) (by omega)
        have h2 := Nat.log2_self_le (n := n) (by omega)
        rw [Nat.pow_succ] at h1
        omega
theorem isq_ok (n : Nat) : Float64.isqrt n * Float64.isqrt n ≤ n ∧ n < (Float64.isqrt n + 1) * (Float64.isqrt n + 1) := root_ok _ n (Nat.le_refl _)
end PM
/-! ### enumerate of a tuple -/
namespace PM
open PySem L2 PySem.Spec PyProof.Rows PySem.Calls
open Sem (wp)
open AutoSeq1 (wpAny_loadPart')
theorem meets_enumT (l : Addr) (items : Array Value) (n : Nat) (dct : Option Addr) (sl : Array (Option Value)) :
    Meets (Builtin.«enumerate.__new__» ⟨[.type "enumerate", .ref l], []⟩) (fun _ R s => s.heap.get? l = some { cls := .type "tuple", dict := dct, data := .seq items n, slots := sl } ∧
      R (.ok (.ret (.ref (s.heap.push { cls := .type "tuple_iterator", data := .fields #[.ref l, .int 0 0] }).objs.size)))
        { s with heap := (s.heap.push { cls := .type "tuple_iterator", data := .fields #[.ref l, .int 0 0] }).push { cls := .type "enumerate", data := .fields #[.none, .bool false, .ref s.heap.objs.size, rawInt 0, .none, .none] } }) :=
  .of_wp fun prog w A R s h => by
    obtain ⟨hp, g, d, tk, os⟩ := s; obtain ⟨hl, h⟩ := h
    have hsub := sub_enumerate
    have hL : Heap.IsTuple (Shared.heap ⟨hp, g, d, tk, os⟩) l items := ⟨_, hl, rfl, n, rfl⟩
    wp_walk using wpAny_loadPart' hl
    refine wpAny_stack_any fun st => wpAny_pure ?_
    split
    · rename_i c _ _ _ _ _
      cases (c == Value.type "enumerate")
      · wp_walk using wpAny_loadPart' hl, wpAny_pyIter_tuple hL
        exact ⟨_, rfl, h⟩
      · wp_walk using wpAny_loadPart' hl, wpAny_pyIter_tuple hL
        exact ⟨_, rfl, h⟩
    · wp_walk using wpAny_loadPart' hl, wpAny_pyIter_tuple hL
      exact ⟨_, rfl, h⟩
theorem call_enumT {prog : Program} {w : World} {A : Around} {E : Value → Shared → Prop} {s : Shared} {l : Addr} {items : Array Value} {Q : Value → Shared → Prop} (hL : s.heap.IsTuple l items)
    (h : ∀ h', IsEnum h' (s.heap.objs.size + 1) s.heap.objs.size 0 .none → h'.IsTupleIter s.heap.objs.size l 0 → h'.objs.size = s.heap.objs.size + 2 →
      (∀ b o, s.heap.get? b = some o → h'.get? b = some o) → Q (.ref (s.heap.objs.size + 1)) { s with heap := h' }) :
    wpAny (model prog w) A (call (.type "enumerate") [.ref l]) Q E s := by
  obtain ⟨⟨c, dct, dt, sl⟩, hl, hc, n, hd⟩ := hL
  replace hc : c = .type "tuple" := hc
  replace hd : dt = .seq items n := hd
  subst hc hd
  refine callType_new F.called_enumerate (by decide) (F.typeCall_enumerate_1 _) (F.newCall_enumerate_1 _) (fun obj => F.args_object_init_2 obj _) F.entry_enumerate_new
    (meets_enumT l items n dct sl) ⟨hl, ?_⟩
  have hz : (s.heap.push { cls := .type "tuple_iterator", data := .fields #[.ref l, .int 0 0] }).objs.size = s.heap.objs.size + 1 := Heap.size_push ..
  show _ ∧ _
  rw [hz]
  have he : IsEnum ((s.heap.push { cls := .type "tuple_iterator", data := .fields #[.ref l, .int 0 0] }).push
      { cls := .type "enumerate", data := .fields #[.none, .bool false, .ref s.heap.objs.size, rawInt 0, .none, .none] }) (s.heap.objs.size + 1) s.heap.objs.size 0 .none := by
    have := Heap.get?_push_size (s.heap.push { cls := .type "tuple_iterator", data := .fields #[.ref l, .int 0 0] })
      (o := { cls := .type "enumerate", data := .fields #[.none, .bool false, .ref s.heap.objs.size, rawInt 0, .none, .none] }) rfl
    rw [hz] at this; exact this
  refine ⟨⟨_, he, rfl⟩, h _ he ⟨_, Heap.get?_push_of_some _ (Heap.get?_push_size _ rfl), rfl, rfl⟩ (by rw [Heap.size_push, hz]) fun b o x => Heap.get?_push_of_some _ (Heap.get?_push_of_some _ x)⟩
/-- the tuple at a, each item in a new pair -/
def Itet (K : PySem.W.Frag) (a : Addr) : It :=
  ⟨fun i H => ∃ (xs : List V) (x : V), SqT K H a xs ∧ xs[i]? = some x, fun i H v H' => ∃ T x, v = .ref T ∧ H T = none ∧ H' = upd H T (.tup [.int (i : Nat), x]) ∧ ∀ xs, SqT K H a xs → xs[i]? = some x, fun i H => ∃ xs : List V, SqT K H a xs ∧ xs.length ≤ i⟩
theorem turn_enumT {P : Program} {w : World} {K : PySem.W.Frag} {elts : List Expr} {kk : Nat} {tpos : Pos} (a e it : Addr) :
    Turn P w K (.Tuple elts kk tpos) (Itet K a) [e, it] e (fun i h => (∃ old, IsEnum h e it ((i : Nat) : Int) old) ∧ h.IsTupleIter it a i ∧ e ≠ it ∧ a ≠ it ∧ e ≠ a) where
  mem := by simp
  obj := fun i h st b hb => by
    obtain ⟨⟨old, he⟩, ⟨o, ho, hc, hd⟩, _⟩ := st
    have e' : b = e ∨ b = it := by simpa using hb
    rcases e' with z | z
    · rw [z]; exact ⟨_, he, fun v q => nomatch q⟩
    · rw [z]; exact ⟨o, ho, fun v q => by rw [hd] at q; cases q⟩
  keep := fun i h h' st k => let ⟨⟨old, he⟩, hi, hne⟩ := st; ⟨⟨old, k e (by simp) _ he⟩, hi.at fun o q => k it (by simp) o q, hne⟩
  item := by
    intro X hP hw hK hc i pins s σ H E I hf st hg
    subst hP hw hK
    obtain ⟨⟨old, he⟩, hit, hne, hat, hea⟩ := st
    obtain ⟨xs, x, hq, hx⟩ := hg
    obtain ⟨its, rv, p, hz⟩ := I.tuple hq
    obtain ⟨u, hu, ru⟩ := rv.get hx
    have hel : e < s.heap.objs.size := Heap.lt_size he
    have hil : it < s.heap.objs.size := by obtain ⟨_, q, _⟩ := hit; exact Heap.lt_size q
    have hpt : s.heap.IsTuple a its.toArray := p
    have hD := Draws.tuple (prog := X.prog) (w := X.w) (A := X.A.in1) (I.ok.hd hc) it a hat its.toArray
    have hlt : i < its.toArray.size := by
      have := List.getElem?_eq_some_iff.mp hu
      obtain ⟨q, _⟩ := this
      simpa using q
    refine wpAny_pyNext_enum_itemD hD he ⟨hit, hpt⟩ hlt hne (by simp [hne, hea]) fun y h' tk hy ho hst' hT hsz hk => ?_
    have hyu : y = u := by
      have hy : its.toArray[i]? = some y := hy
      simp only [List.getElem?_toArray] at hy
      rw [hu] at hy
      exact (Option.some.inj hy).symm
    subst hyu
    have hit' := hst'.1
    refine ⟨_, rfl, wpAny_letOwnedTupleGo_enum (s := { s with heap := h', toks := tk + 1 }) ho fun h'' he' sb => ?_⟩
    have hT2 : h''.get? s.heap.objs.size = some { cls := .type "tuple", data := .seq #[.int i tk, y] } := (sb.2 _ (Nat.ne_of_gt hel)).trans hT
    have new : ObjOk X.prog X.w (upd H s.heap.objs.size (.tup [.int (i : Nat), x])) h'' s.heap.objs.size (.tup [.int (i : Nat), x]) :=
      ⟨by show 2 ≤ sizeLine; decide, [.int i tk, y], .cons ⟨_, rfl⟩ (.cons ru .nil), ⟨_, hT2, rfl, _, rfl⟩⟩
    have I1 : Inv X pins σ (upd H s.heap.objs.size (.tup [.int (i : Nat), x])) { s with heap := h'', toks := tk + 1 } :=
      I.turnedNew (ch := [e, it]) (fun b ob hb q => (sb.2 b (fun z => hb (by simp [z]))).trans (hk b ob (fun z => hb (by simp [z])) (fun z => hb (by simp [z])) q)) hf (Nat.le_refl _) new
    refine ⟨.ref s.heap.objs.size, _, I1, rfl, ⟨_, x, rfl, I.hok.fresh (Nat.le_refl _), rfl, fun ys hy => by rw [I.tuple_inj hy hq]; exact hx⟩, ⟨⟨y, ?_⟩, hit'.at fun o q => (sb.2 it (Ne.symm hne)).trans q, hne, hat, hea⟩, fun b hb => ?_⟩
    · have e1 : ((i + 1 : Nat) : Int) = (i : Int) + 1 := by omega
      rw [e1]; exact he'
    · have hb' : b < s.heap.objs.size := by
        have e' : b = e ∨ b = it := by simpa using hb
        rcases e' with z | z
        · rw [z]; exact hel
        · rw [z]; exact hil
      rw [upd_ne (Nat.ne_of_lt hb')]
      exact (hf b hb).1
  done := by
    intro X hP hw hK hc i pins s σ H E I hf st hg
    subst hP hw hK
    obtain ⟨⟨old, he⟩, hit, hne, hat, hea⟩ := st
    obtain ⟨xs, hq, hx⟩ := hg
    obtain ⟨its, rv, p, hz⟩ := I.tuple hq
    obtain ⟨f0, f1, f2, f3, f4, f5⟩ := hf it (by simp)
    have hl := rv.length
    have hpt : s.heap.IsTuple a its.toArray := p
    have hD : Draws X.prog X.w X.A.in1 it [it, a] i (fun _ _ => False) (fun j h => h.IsTupleIter it a i ∧ h.IsTuple a its.toArray ∧ j = i) :=
      { live := fun _ _ st => let ⟨o, ho, _⟩ := st.1; ⟨o, ho⟩
        frame := fun _ _ _ st hk => ⟨st.1.at fun o e => hk it (by simp) o e, st.2.1.at fun o e => hk a (by simp) o e, st.2.2⟩
        item := fun j s Q E hj st hQ => absurd st.2.2 (Nat.ne_of_lt hj)
        done := fun s Q E st hE => wpAny_nextOf_tuple_end (I.ok.hd hc) st.1 st.2.1 (by simp; omega) hE }
    exact wpAny_pyNext_enum_endD hD he ⟨hit, hpt, rfl⟩ fun h' eb => ⟨rfl, I.turned (t' := s.toks) (fun b o hb q => eb b o hb q) f0 f1 f3 f4 f5⟩
  self := fun A i s Q E st h => let ⟨⟨_, he⟩, _⟩ := st; wpAny_pyIter_enum he h
def iEnumT (K : PySem.W.Frag) (ta : TA) : TI := fun σ H R => ta σ H fun vs H1 => ∃ a xs, vs = [.ref a] ∧ ((SqL K H1 a xs ∧ R (Ite K a) H1) ∨ (SqT K H1 a xs ∧ R (Itet K a) H1))
theorem pi_enumT {X : Cx} {e : Expr} {ta : TA} {p pos tpos : Pos} {elts : List Expr} {kk : Nat} (hg : Gl X "enumerate") (hm : X.mg "enumerate" = none) (ha : PA X [e] ta) (hs : starEach [e] X.env = [(false, eval e X.env)] := by rfl) :
    PI X (.Tuple elts kk tpos) (.Call (.Name "enumerate" p) [e] [] pos) (iEnumT X.K ta) := by
  refine ⟨fun pins s σ H R I h => ?_⟩
  refine Call_ (ld_blt I hg hm boot_enumerate (PyProof.Rows.callWith_type1 (thn (ha.run pos pins s σ H _ I h) fun us s1 ⟨vs, H1, I1, r1, q1⟩ => ?_) hs rfl))
  obtain ⟨a, xs, ex, hq⟩ := q1
  subst ex
  cases r1 with
  | cons r rr =>
    cases rr
    cases r
    rcases hq with ⟨hq, q⟩ | ⟨hq, q⟩
    · obtain ⟨its, rv, p', hz⟩ := I1.list hq
      refine call_enumerate_list p'.isList fun h' he hit hsz hk => wpAny_pyIter_enum he ?_
      have I2 : Inv X pins σ H1 { s1 with heap := h' } := I1.kept (t' := s1.toks) hk
      refine ⟨s1.heap.objs.size + 1, [s1.heap.objs.size + 1, s1.heap.objs.size], _, _, H1, rfl, I2, turn_enum a (s1.heap.objs.size + 1) s1.heap.objs.size, ⟨⟨.none, he⟩, hit, Nat.succ_ne_self _⟩, fun b hb => ?_, q⟩
      have e' : b = s1.heap.objs.size + 1 ∨ b = s1.heap.objs.size := by simpa using hb
      have hle : s1.heap.objs.size ≤ b := by
        rcases e' with z | z
        · rw [z]; exact Nat.le_add_right _ _
        · rw [z]; exact Nat.le_refl _
      exact I1.fpOk hle (I1.hok.fresh hle)
    · obtain ⟨its, rv, p', hz⟩ := I1.tuple hq
      have hpt : s1.heap.IsTuple a its.toArray := p'
      have hal : a < s1.heap.objs.size := by obtain ⟨_, q, _⟩ := hpt; exact Heap.lt_size q
      refine call_enumT hpt fun h' he hit hsz hk => wpAny_pyIter_enum he ?_
      have I2 : Inv X pins σ H1 { s1 with heap := h' } := I1.kept (t' := s1.toks) hk
      refine ⟨s1.heap.objs.size + 1, [s1.heap.objs.size + 1, s1.heap.objs.size], _, _, H1, rfl, I2, turn_enumT a (s1.heap.objs.size + 1) s1.heap.objs.size, ⟨⟨.none, he⟩, hit, Nat.succ_ne_self _, Nat.ne_of_lt hal, Nat.ne_of_gt (Nat.lt_succ_of_lt hal)⟩, fun b hb => ?_, q⟩
      have e' : b = s1.heap.objs.size + 1 ∨ b = s1.heap.objs.size := by simpa using hb
      have hle : s1.heap.objs.size ≤ b := by
        rcases e' with z | z
        · rw [z]; exact Nat.le_add_right _ _
        · rw [z]; exact Nat.le_refl _
      exact I1.fpOk hle (I1.hok.fresh hle)
section
variable {X : Cx} {c : Ct} {e : Expr} {p pos : Pos}
theorem jok_enumT {K : Fr} {C F1 : Hp} {a : Addr} {ds : List D} {vs : List V} (hC : SqT K C a vs) (r : Reps K F1 ds vs) : JOk K C F1 (Itet K a) (pairs 0 ds) where
  go := fun i H h hi => by
    rw [pairs_len] at hi
    obtain ⟨v, hv, _⟩ := r.get (List.getElem?_eq_getElem hi)
    exact ⟨vs, v, h.sqT hC, hv⟩
  yld := fun i F H x H' h f fh hi y => by
    obtain ⟨T, u, rfl, hT, rfl, y⟩ := y
    obtain ⟨d, hd, hr⟩ := r.getV (y vs (h.sqT hC))
    refine ⟨upd F T (.tup [.int (i : Nat), u]), .tup [.int ((i : Nat) : Int), d], growT fh hT, by rw [pairs_get, hd]; simp, ?_⟩
    unfold Rep
    exact ⟨T, _, rfl, .inl (.inl upd_same), Reps.cons rfl (Reps.cons (Rep.mono (f.trans (Sub.upd (fh.none hT))) _ _ hr) Reps.nil)⟩
  stop := fun i H h hi => ⟨vs, h.sqT hC, by rw [pairs_len] at hi; rw [← r.length]; exact hi⟩
/-- enumerate of a list or of a tuple -/
def enumT (R : M (List D)) : M (List D) := R.bind fun ds => M.lift (match ds with | [.lst xs] => some (pairs 0 xs) | [.tup xs] => some (pairs 0 xs) | _ => none)
theorem j_enumT {R : M (List D)} {tpos : Pos} {elts : List Expr} {kk : Nat} (hk : c.K = X.K) (hg : Gl X "enumerate") (hm : X.mg "enumerate" = none) (ha : PA X [e] (tPs c R)) (hs : starEach [e] X.env = [(false, eval e X.env)] := by rfl) :
    PI X (.Tuple elts kk tpos) (.Call (.Name "enumerate" p) [e] [] pos) (tJ c (enumT R)) := by
  refine (pi_enumT hg hm ha hs).imp fun σ H Q ⟨F, ρ, S, k⟩ => ⟨F, ρ, S, k.step fun ds ρ1 xs F1 H1 S1 r1 f1 h1 a1 => ?_⟩
  obtain ⟨as, e, q⟩ := a1.liftA S1
  rw [← hk]
  split at e
  · cases e
    obtain ⟨x, rfl, a, vs, rfl, h2, k2⟩ := PkRs.one r1
    exact ⟨a, vs, rfl, .inl ⟨.inl h2, q _ F1 H1 (Grow.refl S1.fh) (jok_enum h2 k2)⟩⟩
  · cases e
    obtain ⟨x, rfl, r2⟩ := PkRs.one r1
    have r2 : PkR c.K F1 H1 (.tup _) x := r2
    obtain ⟨a, vs, rfl, h2, k2⟩ := r2
    exact ⟨a, vs, rfl, .inr ⟨S1.fh.sqT h2, q _ F1 H1 (Grow.refl S1.fh) (jok_enumT (S1.fh.sqT h2) k2)⟩⟩
  · cases e
theorem k_enumT {R : M (List D)} {tpos : Pos} {elts : List Expr} {kk : Nat} (hk : c.K = X.K) (hg : Gl X "enumerate") (hm : X.mg "enumerate" = none) (ha : PA X [e] (tFs c R)) (hs : starEach [e] X.env = [(false, eval e X.env)] := by rfl) :
    PI X (.Tuple elts kk tpos) (.Call (.Name "enumerate" p) [e] [] pos) (tK c (enumT R)) := by
  refine (pi_enumT hg hm ha hs).imp fun σ H Q ⟨F, ρ, S, k⟩ => ⟨F, ρ, S, k.step fun ds ρ1 xs F1 H1 S1 r1 f1 h1 a1 => ?_⟩
  obtain ⟨as, e, q⟩ := a1.liftA S1
  rw [← hk]
  split at e
  · cases e
    obtain ⟨x, r, rfl, k2, k3⟩ := Reps.inv r1
    have k3 := k3.inv0
    subst k3
    unfold Rep at k2
    obtain ⟨a, vs, rfl, h2, k2⟩ := k2
    exact ⟨a, vs, rfl, .inl ⟨.inl (S1.fh.rd h2), q _ F1 H1 (Grow.refl S1.fh) (jok_enum h2 k2)⟩⟩
  · cases e
    obtain ⟨x, r, rfl, k2, k3⟩ := Reps.inv r1
    have k3 := k3.inv0
    subst k3
    unfold Rep at k2
    obtain ⟨a, vs, rfl, h2, k2⟩ := k2
    exact ⟨a, vs, rfl, .inr ⟨S1.fh.sqT h2, q _ F1 H1 (Grow.refl S1.fh) (jok_enumT h2 k2)⟩⟩
  · cases e
end
/-- a tuple, times an int -/
def mulTD : D → D → Option Slot
  | .tup a, .int k => if a.isEmpty = false ∧ 2 ≤ k ∧ k ≤ 1000 ∧ a.length ≤ 1000 then some (false, .tup (List.replicate k.toNat a).flatten) else none
  | _, _ => none
theorem ok_mulT {K : Fr} : OpOk K mulTD (rRepT K) := by
  intro F H d1 d2 x y s Q fh r1 r2 e k
  unfold mulTD at e
  split at e
  · split at e
    · cases e
      rename_i a j hz
      obtain ⟨p, vs, e1, h1, k1⟩ := pkTup r1
      have r2 : y = .int _ := r2
      refine ⟨p, j, vs, e1, r2, fh.sqT h1, fun z => ?_, hz.2.1, hz.2.2.1, by rw [← k1.length]; exact hz.2.2.2, fun p hp => vnT fh hp (k1.rep _) k⟩
      have z := (reps_nil_iff k1).mp z
      rw [z] at hz
      simp at hz
    · cases e
  · cases e
end PM
namespace PM
open PySem L2 PyProof.Rows
variable {pp : Pin}

/-! ### names that are not read again are forgotten -/
theorem wipeE_sub {ρ : Env} {i : Nat} {s : Slot} : ∀ {js : List Nat}, (wipeE ρ js)[i]? = some (some s) → ρ[i]? = some (some s)
  | [], h => h
  | j :: js, h => by
    unfold wipeE at h
    by_cases e : j = i
    · subst e
      by_cases l : j < (wipeE ρ js).length
      · rw [List.getElem?_set_self l] at h
        cases h
      · rw [List.getElem?_eq_none (by rw [List.length_set]; omega)] at h
        cases h
    · rw [List.getElem?_set_ne e] at h
      exact wipeE_sub h
theorem SR.dim {K : Fr} {B F0 F H : Hp} {σ : L2.St} {ρ : Env} (S : SR pp K B F0 F H σ ρ) (js : List Nat) : SR pp K B F0 F H σ (wipeE ρ js) where
  bh := S.bh
  fh := S.fh
  f0 := S.f0
  new := S.new
  len := by rw [wipeE_length]; exact S.len
  sl := fun i s e => S.sl i s (wipeE_sub e)
  sep := fun i j p di dj e1 e2 e3 e4 => S.sep i j p di dj (wipeE_sub e1) (wipeE_sub e2) e3 e4
  pk := S.pk
def wpS (js : List Nat) (S : SM) : SM := fun ρ => match S ρ with
  | .nx ρ' => .nx (wipeE ρ' js)
  | .ct ρ' => .ct (wipeE ρ' js)
  | o => o
theorem saft_wp {c : Ct} {js : List Nat} {S : SM} {ρ : Env} {D : Ends} (h : SAft c (wpS js S ρ) D) : SAft c (S ρ) D := by
  unfold wpS at h
  cases q : S ρ with
  | nx ρ' => rw [q] at h; exact fun σ' F' H' S' => h σ' F' H' (S'.dim js)
  | ct ρ' => rw [q] at h; exact fun σ' F' H' S' => h σ' F' H' (S'.dim js)
  | bk ρ' => rw [q] at h; exact h
  | rt s => rw [q] at h; exact h
  | exc e ρ' => rw [q] at h; exact h
  | bad => rw [q] at h; exact h
section
variable {X : Cx} {c : Ct} {s : Stmt} {ss : List Stmt} {S1 : SM} {js : List Nat}
theorem s_wp (h : PS X s (tS c S1)) : PS X s (tS c (wpS js S1)) := h.imp fun D σ H ⟨F, ρ, S, k⟩ => ⟨F, ρ, S, saft_wp k⟩
theorem ss_wp (h : PSs X ss (tS c S1)) : PSs X ss (tS c (wpS js S1)) := h.imp fun D σ H ⟨F, ρ, S, k⟩ => ⟨F, ρ, S, saft_wp k⟩
end
/-! ### loops over what is forgotten -/
section
variable {G : M Bool} {S : SM} {T : Tg} {ρ ρ1 ρ2 : Env} {js : List Nat}
theorem wp_nx (h : S ρ = .nx ρ1) : wpS js S ρ = .nx (wipeE ρ1 js) := by unfold wpS; rw [h]
theorem wp_rt {s : Slot} (h : S ρ = .rt s) : wpS js S ρ = .rt s := by unfold wpS; rw [h]
theorem wp_exc {e : Exn} (h : S ρ = .exc e ρ1) : wpS js S ρ = .exc e ρ1 := by unfold wpS; rw [h]
/-- one turn -/
def stepF (T : Tg) (S : SM) (d : D) (ρ : Env) : SOut := match T d ρ with
  | none => .bad
  | some ρ1 => S ρ1
/-- all turns go on, a state is handed on -/
theorem for_fold {α β : Type} (E : α → Env) (f : α → β → α) (g : β → D) (P : α → Prop) : ∀ (l : List β) (a : α), P a → (∀ a x, x ∈ l → P a → (stepF T S (g x) (E a) = .nx (E (f a x)) ∨ stepF T S (g x) (E a) = .ct (E (f a x))) ∧ P (f a x)) →
    forF T S (l.map g) (E a) = .nx (E (l.foldl f a)) ∧ P (l.foldl f a)
  | [], a, pa, _ => ⟨rfl, pa⟩
  | x :: l, a, pa, h => by
    obtain ⟨h1, h2⟩ := h a x List.mem_cons_self pa
    have ih := for_fold E f g P l (f a x) h2 fun a y hy => h a y (List.mem_cons_of_mem _ hy)
    refine ⟨?_, ih.2⟩
    rw [List.map_cons, forF]
    unfold stepF at h1
    cases q : T (g x) (E a) with
    | none => rw [q] at h1; rcases h1 with h1 | h1 <;> cases h1
    | some ρ1 =>
      rw [q] at h1
      dsimp only at h1 ⊢
      rcases h1 with h1 | h1 <;> rw [h1] <;> exact ih.1
/-- the state stays as it is -/
theorem for_same (ds : List D) (h : ∀ d ∈ ds, stepF T S d ρ = .nx ρ ∨ stepF T S d ρ = .ct ρ) : forF T S ds ρ = .nx ρ := by
  have := (for_fold (T := T) (S := S) (fun _ : Unit => ρ) (fun _ _ => ()) id (fun _ => True) ds () trivial fun a x hx _ => ⟨h x hx, trivial⟩).1
  rwa [List.map_id] at this
/-- a list is put together, one member a turn -/
theorem for_app {β : Type} (E : List D → Env) (g h : β → D) (l : List β) (hs : ∀ acc x, x ∈ l → acc.length ≤ n + l.length → stepF T S (g x) (E acc) = .nx (E (acc ++ [h x]))) (acc : List D) (hn : acc.length ≤ n) :
    forF T S (l.map g) (E acc) = .nx (E (acc ++ l.map h)) := by
  induction l generalizing acc n with
  | nil => rw [List.map_nil, List.map_nil, List.append_nil]; rfl
  | cons x l ih =>
    have h1 := hs acc x List.mem_cons_self (by omega)
    rw [List.map_cons, forF]
    unfold stepF at h1
    cases q : T (g x) (E acc) with
    | none => rw [q] at h1; cases h1
    | some ρ1 =>
      rw [q] at h1
      dsimp only at h1 ⊢
      rw [h1]
      dsimp only
      rw [ih (n := n + 1) (fun acc y hy hl => hs acc y (List.mem_cons_of_mem _ hy) (by rw [List.length_cons]; omega)) (acc ++ [h x]) (by rw [List.length_append, List.length_cons, List.length_nil]; omega), List.append_assoc]
      rfl
/-- the first turn that returns -/
theorem for_ret {β : Type} (g : β → D) (p : β → Bool) (r : Slot) : ∀ (l : List β), (∀ x ∈ l, stepF T S (g x) ρ = if p x = true then .rt r else .nx ρ) → forF T S (l.map g) ρ = if l.any p = true then .rt r else .nx ρ
  | [], _ => rfl
  | x :: l, h => by
    have h1 := h x List.mem_cons_self
    have ih := for_ret g p r l fun y hy => h y (List.mem_cons_of_mem _ hy)
    rw [List.map_cons, forF, List.any_cons]
    unfold stepF at h1
    cases q : T (g x) ρ with
    | none => rw [q] at h1; cases e : p x <;> rw [e] at h1 <;> cases h1
    | some ρ1 =>
      rw [q] at h1
      dsimp only at h1 ⊢
      rw [h1]
      cases e : p x with
      | true => simp
      | false => simpa using ih
/-- a word that is kept, turn by turn -/
theorem for_lst (I : Nat → Env → Prop) : ∀ (ds : List D) (n : Nat) (ρ : Env), I n ρ → (∀ k d ρ, ds[k]? = some d → I (n + k) ρ → ∃ ρ', (stepF T S d ρ = .nx ρ' ∨ stepF T S d ρ = .ct ρ') ∧ I (n + k + 1) ρ') → ∃ ρ', forF T S ds ρ = .nx ρ' ∧ I (n + ds.length) ρ'
  | [], n, ρ, h, _ => ⟨ρ, rfl, h⟩
  | d :: ds, n, ρ, h, hs => by
    obtain ⟨ρ', e, h'⟩ := hs 0 d ρ rfl h
    obtain ⟨ρ'', e2, h2⟩ := for_lst I ds (n + 1) ρ' h' fun k d ρ hk hi => by
      have := hs (k + 1) d ρ (by simpa using hk) (by rwa [show n + (k + 1) = n + 1 + k by omega])
      rwa [show n + (k + 1) + 1 = n + 1 + k + 1 by omega] at this
    refine ⟨ρ'', ?_, by rwa [List.length_cons, show n + (ds.length + 1) = n + 1 + ds.length by omega]⟩
    rw [forF]
    unfold stepF at e
    cases q : T d ρ with
    | none => rw [q] at e; rcases e with e | e <;> cases e
    | some ρ1 =>
      rw [q] at e
      dsimp only at e ⊢
      rcases e with e | e <;> rw [e] <;> exact e2
theorem for_rng {n : Nat} (I : Nat → Env → Prop) (h0 : I 0 ρ) (hs : ∀ k ρ, k < n → I k ρ → ∃ ρ', (stepF T S (.int (k : Int)) ρ = .nx ρ' ∨ stepF T S (.int (k : Int)) ρ = .ct ρ') ∧ I (k + 1) ρ') : ∃ ρ', forF T S (intsR 0 n) ρ = .nx ρ' ∧ I n ρ' := by
  have hl : (intsR 0 n).length = n := by unfold intsR; rw [List.length_map, List.length_range]
  obtain ⟨ρ', e, h⟩ := for_lst (T := T) (S := S) I (intsR 0 n) 0 ρ h0 fun k d ρ hk hi => by
    unfold intsR at hk
    rw [List.getElem?_map] at hk
    obtain ⟨i, e1, e2⟩ := Option.map_eq_some_iff.mp hk
    have hi' : k < n := by
      have := (List.getElem?_eq_some_iff.mp e1).1
      rwa [List.length_range] at this
    rw [List.getElem?_range hi'] at e1
    cases e1
    subst e2
    rw [Nat.zero_add] at hi ⊢
    have := hs _ ρ hi' hi
    simpa using this
  rw [hl, Nat.zero_add] at h
  exact ⟨ρ', e, h⟩
/-- a comprehension -/
theorem comp_map {β : Type} {E : M D} {vs : List Nat} (g h : β → D) : ∀ (l : List β), (∀ x ∈ l, ∃ ρ1 ρ2 ρ3, T (g x) (wipeE ρ vs) = some ρ1 ∧ G ρ1 = .ok true ρ2 ∧ E ρ2 = .ok (h x) ρ3 ∧ restE ρ ρ3 vs = ρ) →
    compF T G E vs (l.map g) ρ = .ok (l.map h) ρ
  | [], _ => rfl
  | x :: l, k => by
    obtain ⟨ρ1, ρ2, ρ3, e1, e2, e3, e4⟩ := k x List.mem_cons_self
    rw [List.map_cons, List.map_cons]
    exact comp_go e1 e2 e3 (by rw [e4]; exact comp_map g h l fun y hy => k y (List.mem_cons_of_mem _ hy))
theorem comp_filter {β : Type} {E : M D} {vs : List Nat} (g h : β → D) (p : β → Bool) : ∀ (l : List β), (∀ x ∈ l, ∃ ρ1 ρ2 ρ3, T (g x) (wipeE ρ vs) = some ρ1 ∧ G ρ1 = .ok (p x) ρ2 ∧ (p x = true → E ρ2 = .ok (h x) ρ3) ∧ (p x = true → restE ρ ρ3 vs = ρ) ∧ (p x = false → restE ρ ρ2 vs = ρ)) →
    compF T G E vs (l.map g) ρ = .ok ((l.filter p).map h) ρ
  | [], _ => rfl
  | x :: l, k => by
    obtain ⟨ρ1, ρ2, ρ3, e1, e2, e3, e4, e5⟩ := k x List.mem_cons_self
    have ih := comp_filter g h p l fun y hy => k y (List.mem_cons_of_mem _ hy)
    rw [List.map_cons, List.filter_cons]
    cases q : p x with
    | true =>
      rw [if_pos rfl, List.map_cons]
      rw [q] at e2
      exact comp_go e1 e2 (e3 q) (by rw [e4 q]; exact ih)
    | false =>
      rw [if_neg Bool.false_ne_true]
      rw [q] at e2
      exact comp_no e1 e2 (by rw [e5 q]; exact ih)
end
theorem for_exc {T : Tg} {S : SM} {d : D} {ds : List D} {ρ ρ1 ρ2 : Env} {e : Exn} (h : T d ρ = some ρ1) (h2 : S ρ1 = .exc e ρ2) : forF T S (d :: ds) ρ = .exc e ρ2 := by
  rw [forF, h]; dsimp only; rw [h2]
theorem seq_rt {S1 S2 : SM} {ρ : Env} {s : Slot} (h : S1 ρ = .rt s) : seqS S1 S2 ρ = .rt s := by rw [seqS, h]
theorem seq_exc {S1 S2 : SM} {ρ ρ1 : Env} {e : Exn} (h : S1 ρ = .exc e ρ1) : seqS S1 S2 ρ = .exc e ρ1 := by rw [seqS, h]
/-! slices -/
theorem cut_dn {α : Type} (xs : List α) (k : Nat) : cut xs (some (k : Int)) none = xs.drop k := by
  unfold cut
  rw [HT.sIx_nat, HT.sIx_none]
  by_cases h : k ≤ xs.length
  · rw [Nat.min_eq_left h, List.take_of_length_le (by rw [List.length_drop]; exact Nat.le_refl _)]
  · rw [List.drop_eq_nil_of_le (by omega : xs.length ≤ k), List.drop_eq_nil_of_le (by omega : xs.length ≤ min k xs.length), List.take_nil]
theorem cut_tn {α : Type} (xs : List α) (k : Nat) : cut xs none (some (k : Int)) = xs.take k := by
  unfold cut
  rw [HT.sIx_nat, HT.sIx_none, List.drop_zero, Nat.sub_zero]
  by_cases h : k ≤ xs.length
  · rw [Nat.min_eq_left h]
  · rw [Nat.min_eq_right (by omega), List.take_of_length_le (Nat.le_refl _), List.take_of_length_le (by omega)]
theorem cut_mn {α : Type} (xs : List α) (a b : Nat) (h : a ≤ b) (hb : b ≤ xs.length) : cut xs (some (a : Int)) (some (b : Int)) = (xs.drop a).take (b - a) := by
  unfold cut
  rw [HT.sIx_nat, HT.sIx_nat, Nat.min_eq_left hb, Nat.min_eq_left (by omega)]
theorem cut_l1 {α : Type} (xs : List α) : cut xs none (some (-1)) = xs.dropLast := by
  unfold cut
  rw [HT.sIx_none, List.drop_zero, Nat.sub_zero, List.dropLast_eq_take]
  have : HT.sIx xs.length xs.length (some (-1)) = xs.length - 1 := by
    show (if (-1 : Int) < 0 then ((-1 : Int) + (xs.length : Int)).toNat else min (-1 : Int).toNat xs.length) = _
    rw [if_pos (by decide)]
    omega
  rw [this]
/-! a run's look, in parts -/
theorem map2 {α β γ δ : Type} {o : Option α} {f : α → β} {g : α → γ} {h : α → δ} {a : β} {b : γ} {c : δ} (h1 : o.map (fun x => (f x, g x)) = some (a, b)) (h2 : o.map h = some c) : o.map (fun x => (f x, g x, h x)) = some (a, b, c) := by
  cases o with
  | none => cases h1
  | some x =>
    simp only [Option.map_some, Option.some.injEq, Prod.mk.injEq] at *
    exact ⟨h1.1, h1.2, h2⟩
end PM
namespace PM
open PySem L2 PyProof.Rows
/-! ### operations on data, by their forms (for simp) -/
theorem sz_eq : sizeLine = 16777216 := rfl
theorem le_sz {n : Nat} (h : n ≤ 10000000) : (n ≤ sizeLine) = True := eq_true (Nat.le_trans h (by decide))
theorem lt_sz {n : Nat} (h : n ≤ 10000000) : (n < sizeLine) = True := eq_true (Nat.lt_of_le_of_lt h (by decide))
section
variable {i j : Int} {s t : List Nat} {a b : List D} {x y z : D} {k : Bool}
theorem truth_non : truth .non = some false := rfl
theorem truth_bl : truth (.bl k) = some k := rfl
theorem truth_int : truth (.int i) = some (i != 0) := rfl
theorem truth_str (h : s.length ≤ sizeLine) : truth (.str s) = some (!s.isEmpty) := by
  show (if s.length ≤ sizeLine then some ((s.length : Int) != 0) else none) = _
  rw [if_pos h]
  cases s with
  | nil => rfl
  | cons c r =>
    have e : (((r.length + 1 : Nat) : Int) != 0) = true := by
      rw [bne_iff_ne]
      omega
    exact congrArg some e
theorem truth_lst : truth (.lst a) = some (!a.isEmpty) := rfl
theorem truth_tup : truth (.tup a) = some (!a.isEmpty) := rfl
theorem add_ii : addD (.int i) (.int j) = some (false, .int (i + j)) := rfl
theorem add_ss (h : s.length + t.length ≤ sizeLine) : addD (.str s) (.str t) = some (false, .str (s ++ t)) := if_pos h
theorem add_ll (h : a.length + b.length ≤ sizeLine) : addD (.lst a) (.lst b) = some (true, .lst (a ++ b)) := if_pos h
theorem add_tt (h : a.length + b.length ≤ sizeLine) : addD (.tup a) (.tup b) = some (false, .tup (a ++ b)) := if_pos h
theorem add_ib : addD (.int i) (.bl k) = some (false, .int (i + b2i k)) := rfl
theorem addI_ii : addIA (.int i) (.int j) = some (false, .int (i + j)) := rfl
theorem addI_ss (h : s.length + t.length ≤ sizeLine) : addIA (.str s) (.str t) = some (false, .str (s ++ t)) := if_pos h
theorem sub_ii : subD (.int i) (.int j) = some (false, .int (i - j)) := rfl
theorem mul_ii (h : mulOk i j = true) : mulD (.int i) (.int j) = some (false, .int (i * j)) := if_pos h
theorem mul_l {m : Int} (h1 : -(2 ^ 64) < i) (h2 : i < 2 ^ 64) : mulD (.int i) (.int j) = some (false, .int (i * j)) := if_pos (mulOk_l h1 h2)
theorem mul_r (h1 : -(2 ^ 64) < j) (h2 : j < 2 ^ 64) : mulD (.int i) (.int j) = some (false, .int (i * j)) := if_pos (mulOk_r h1 h2)
theorem mulI_l (h1 : -(2 ^ 64) < i) (h2 : i < 2 ^ 64) : mulID (.int i) (.int j) = some (false, .int (i * j)) := if_pos (.inl ⟨h1, h2⟩)
theorem mulI_r (h1 : -(2 ^ 64) < j) (h2 : j < 2 ^ 64) : mulID (.int i) (.int j) = some (false, .int (i * j)) := if_pos (.inr ⟨h1, h2⟩)
theorem lst_rep {k : Int} {n : Nat} (hk : k = (n : Int)) (hn : n ≤ 100000) (h : a.length * n ≤ 10000000) : mulD (.lst a) (.int k) = some (true, .lst (List.replicate n a).flatten) := by
  subst hk
  refine (if_pos ⟨?_, by omega, by omega⟩).trans (by simp)
  rw [Int.toNat_natCast]
  exact Nat.le_trans h (by decide)
theorem str_rep {k : Int} {n : Nat} (hk : k = (n : Int)) (hn : n ≤ 100000) (h : s.length * n ≤ 10000000) : mulD (.str s) (.int k) = some (false, .str (strRep s n)) := by
  subst hk
  refine (if_pos ⟨?_, by omega, by omega⟩).trans (by simp)
  rw [Int.toNat_natCast]
  exact Nat.le_trans h (by decide)
theorem log_small {j : Int} (h0 : 0 < j) (h1 : j < 1000000000000) : j.natAbs.log2 < 9000 := by
  have : j.natAbs < 2 ^ 40 := by omega
  have := (Nat.log2_lt (by omega)).mpr this
  omega
theorem fdiv_ii (h0 : 0 < j) (h1 : j < 1000000000000) : fdivD (.int i) (.int j) = some (false, .int (i / j)) := if_pos ⟨h0, log_small h0 h1⟩
theorem mod_ii (h0 : 0 < j) : modD (.int i) (.int j) = some (false, .int (i % j)) := if_pos h0
theorem lt_ii : ltD (.int i) (.int j) = some (false, .bl (decide (i < j))) := rfl
theorem le_ii : leD (.int i) (.int j) = some (false, .bl (decide (i ≤ j))) := rfl
theorem gt_ii : gtD (.int i) (.int j) = some (false, .bl (decide (j < i))) := rfl
theorem ge_ii : geD (.int i) (.int j) = some (false, .bl (decide (j ≤ i))) := rfl
theorem eq_of {c : Bool} (h : eqvD x y = some c) : eqD x y = some (false, .bl c) := by unfold eqD; rw [h]; rfl
theorem ne_of {c : Bool} (h : eqvD x y = some c) : neD x y = some (false, .bl (!c)) := by unfold neD; rw [h]; rfl
theorem eq_ii : eqD (.int i) (.int j) = some (false, .bl (decide (i = j))) := eq_of (eqv_int i j)
theorem ne_ii : neD (.int i) (.int j) = some (false, .bl (!decide (i = j))) := ne_of (eqv_int i j)
theorem eq_ss (h1 : okS s = true) (h2 : okS t = true) : eqD (.str s) (.str t) = some (false, .bl (decide (s = t))) := eq_of (eqv_str h1 h2)
theorem ne_ss (h1 : okS s = true) (h2 : okS t = true) : neD (.str s) (.str t) = some (false, .bl (!decide (s = t))) := ne_of (eqv_str h1 h2)
theorem ix_lst (h : atI a i = some x) : ixD (.lst a) (.int i) = some (false, x) := by show Option.map _ (atI a i) = _; rw [h]; rfl
theorem ix_tup (h : atI a i = some x) : ixD (.tup a) (.int i) = some (false, x) := by show Option.map _ (atI a i) = _; rw [h]; rfl
theorem ix_str {c : Nat} (hs : s.length ≤ sizeLine) (h : atI s i = some c) : ixD (.str s) (.int i) = some (false, .str [c]) := by
  show (if s.length ≤ sizeLine then (atI s i).map fun c => ((false, .str [c]) : Slot) else none) = _
  rw [if_pos hs, h]; rfl
theorem at_0 {α : Type} (a : α) (l : List α) : atI (a :: l) (0 : Int) = some a := by
  rw [show (0 : Int) = ((0 : Nat) : Int) from rfl, atI_nat (by simp)]; rfl
theorem at_1 {α : Type} (a b : α) (l : List α) : atI (a :: b :: l) (1 : Int) = some b := by
  rw [show (1 : Int) = ((1 : Nat) : Int) from rfl, atI_nat (by simp)]; rfl
theorem at_2 {α : Type} (a b c : α) (l : List α) : atI (a :: b :: c :: l) (2 : Int) = some c := by
  rw [show (2 : Int) = ((2 : Nat) : Int) from rfl, atI_nat (by simp)]; rfl
theorem at_3 {α : Type} (a b c d : α) (l : List α) : atI (a :: b :: c :: d :: l) (3 : Int) = some d := by
  rw [show (3 : Int) = ((3 : Nat) : Int) from rfl, atI_nat (by simp)]; rfl
theorem at_4 {α : Type} (a b c d e : α) (l : List α) : atI (a :: b :: c :: d :: e :: l) (4 : Int) = some e := by
  rw [show (4 : Int) = ((4 : Nat) : Int) from rfl, atI_nat (by simp)]; rfl
theorem sl_lst {lo hi : Option Int} : sliceD (.lst a) lo hi = some (true, .lst (cut a lo hi)) := rfl
theorem sl_tup {lo hi : Option Int} : sliceD (.tup a) lo hi = some (false, .tup (cut a lo hi)) := rfl
theorem sl_str {lo hi : Option Int} (h : s.length ≤ sizeLine) : sliceD (.str s) lo hi = some (false, .str (cut s lo hi)) := if_pos h
theorem len_str (h : s.length ≤ sizeLine) : lenD [.str s] = some (false, .int s.length) := if_pos h
theorem len_lst : lenD [.lst a] = some (false, .int a.length) := rfl
theorem len_tup : lenD [.tup a] = some (false, .int a.length) := rfl
theorem int_i : intD [.int i] = some (false, .int i) := rfl
theorem int_b : intD [.bl k] = some (false, .int (if k then 1 else 0)) := rfl
theorem list_l : listD [.lst a] = some (true, .lst a) := rfl
theorem list_t : listD [.tup a] = some (true, .lst a) := rfl
theorem tup_l : tupD [.lst a] = some (false, .tup a) := rfl
theorem tup_t : tupD [.tup a] = some (false, .tup a) := rfl
theorem neg_i : negD (.int i) = some (false, .int (-i)) := rfl
theorem abs_i : absD [.int i] = some (false, .int (if i < 0 then -i else i)) := rfl
theorem max_ii : maxD [.int i, .int j] = some (false, .int (if j > i then j else i)) := rfl
theorem min_ii : minD [.int i, .int j] = some (false, .int (if j < i then j else i)) := rfl
theorem is_non (h : isNonD x = some k) : isD x .non = some (false, .bl k) := by
  have : isD x .non = (isNonD x).map fun b => (false, .bl b) := by cases x <;> rfl
  rw [this, h]; rfl
theorem isn_non (h : isNonD x = some k) : isNotD x .non = some (false, .bl (!k)) := by
  have : isNotD x .non = (isNonD x).map fun b => (false, .bl (!b)) := by cases x <;> rfl
  rw [this, h]; rfl
theorem is_bl {c : Bool} (h : isBlD c x = some k) : isD x (.bl c) = some (false, .bl k) := by
  have : isD x (.bl c) = (isBlD c x).map fun b => (false, .bl b) := by cases x <;> rfl
  rw [this, h]; rfl
theorem isn_bl {c : Bool} (h : isBlD c x = some k) : isNotD x (.bl c) = some (false, .bl (!k)) := by
  have : isNotD x (.bl c) = (isBlD c x).map fun b => (false, .bl (!b)) := by cases x <;> rfl
  rw [this, h]; rfl
theorem is_nn : isD .non .non = some (false, .bl true) := rfl
theorem is_bb {c : Bool} : isD (.bl k) (.bl c) = some (false, .bl (decide (k = c))) := rfl
theorem is_in : isD (.int i) .non = some (false, .bl false) := rfl
theorem is_sn : isD (.str s) .non = some (false, .bl false) := rfl
theorem is_ln : isD (.lst a) .non = some (false, .bl false) := rfl
theorem is_tn : isD (.tup a) .non = some (false, .bl false) := rfl
theorem is_bn : isD (.bl k) .non = some (false, .bl false) := rfl
theorem isn_nn : isNotD .non .non = some (false, .bl false) := rfl
theorem isn_bb {c : Bool} : isNotD (.bl k) (.bl c) = some (false, .bl (!decide (k = c))) := rfl
theorem isn_in : isNotD (.int i) .non = some (false, .bl true) := rfl
theorem isn_sn : isNotD (.str s) .non = some (false, .bl true) := rfl
theorem isn_ln : isNotD (.lst a) .non = some (false, .bl true) := rfl
theorem isn_tn : isNotD (.tup a) .non = some (false, .bl true) := rfl
theorem isn_bn : isNotD (.bl k) .non = some (false, .bl true) := rfl
theorem it_lst : itemsD (.lst a) = some a := rfl
theorem it_tup : itemsD (.tup a) = some a := rfl
theorem it_str : itemsD (.str s) = some (signs s) := rfl
theorem ty_non : tyD .non = some .non := rfl
theorem ty_bl : tyD (.bl k) = some .bl := rfl
theorem ty_int : tyD (.int i) = some .int := rfl
theorem ty_str : tyD (.str s) = some .str := rfl
theorem ty_lst : tyD (.lst a) = some .lst := rfl
theorem ty_tup : tyD (.tup a) = some .tup := rfl
theorem ty_dic {ks : List Key} : tyD (.dic ks a) = some .dic := rfl
theorem in_of {c : Bool} (h : memD x y = some c) : inD x y = some (false, .bl c) := by unfold inD; rw [h]; rfl
theorem nin_of {c : Bool} (h : memD x y = some c) : notInD x y = some (false, .bl (!c)) := by unfold notInD; rw [h]; rfl
theorem all_l {bs : List Bool} (h : blsD a = some bs) : allD [.lst a] = some (false, .bl (bs.all id)) := by show (blsD a).map _ = _; rw [h]; rfl
theorem any_l {bs : List Bool} (h : blsD a = some bs) : anyD [.lst a] = some (false, .bl (bs.any id)) := by show (blsD a).map _ = _; rw [h]; rfl
theorem sum_l {ns : List Int} (h : intsD a = some ns) : sumD [.lst a] = some (false, .int ns.sum) := by show (intsD a).map _ = _; rw [h]; rfl
theorem bls_map : ∀ l : List Bool, blsD (l.map D.bl) = some l
  | [] => rfl
  | a :: l => by
    show (blsD (l.map D.bl)).map (fun q => a :: q) = _
    rw [bls_map l]
    rfl
theorem ints_map : ∀ l : List Int, intsD (l.map D.int) = some l
  | [] => rfl
  | a :: l => by
    show (intsD (l.map D.int)).map (fun q => a :: q) = _
    rw [ints_map l]
    rfl
theorem sub_self (t : Ty) : Ty.sub t t = true := by cases t <;> rfl
end
/-! statements, by what their parts come to -/
section
variable {ρ ρ1 ρ2 : Env} {A : M (List D)} {S S1 S2 : SM} {T : Tg} {n : Nat} {o : SOut}
theorem go {r : SOut} (h : S1 ρ = .nx ρ1) (h2 : S2 ρ1 = r) : seqS S1 S2 ρ = r := (seq_nx h).trans h2
theorem stop {s : Slot} (h : S1 ρ = .rt s) : seqS S1 S2 ρ = .rt s := seq_rt h
theorem rng_L {R : M (List D)} {L : Int} (e : R ρ = .ok [.int L] ρ1) (h : -(2 ^ 62) ≤ L ∧ L < 2 ^ 62) : rng1 R ρ = .ok (intsR 0 L.toNat) ρ1 := by
  unfold rng1 M.bind M.lift
  rw [e]
  dsimp only
  rw [if_pos h]
theorem rng_ok {R : M (List D)} {L : Int} (e : R ρ = .ok [.int L] ρ1) (hL : L = (n : Int)) (hn : n ≤ 1000000000) : rng1 R ρ = .ok (intsR 0 n) ρ1 := by
  have := rng_L e (by omega)
  rwa [show L.toNat = n by omega] at this
theorem rng2_ok {R : M (List D)} {lo hi : Int} (e : R ρ = .ok [.int lo, .int hi] ρ1) (hL : hi - lo = (n : Int) ∨ (hi ≤ lo ∧ n = 0)) (h0 : -1000000000 ≤ lo ∧ lo ≤ 1000000000) (h1 : -1000000000 ≤ hi ∧ hi ≤ 1000000000) : rng2 R ρ = .ok (intsR lo n) ρ1 := by
  unfold rng2 M.bind M.lift
  rw [e]
  dsimp only
  have h : -(2 ^ 62) ≤ lo ∧ lo < 2 ^ 62 ∧ -(2 ^ 62) ≤ hi ∧ hi < 2 ^ 62 := by omega
  rw [if_pos h]
  have : (hi - lo).toNat = n := by omega
  rw [this]
/-- a loop, walked -/
theorem for_by {ds : List D} (h : A ρ = .ok ds ρ1) (h2 : forF T S ds ρ1 = o) : forS A T S ρ = o := (for_nx h).trans h2
theorem wp_by {js : List Nat} (h : S ρ = .nx ρ1) (h2 : wipeE ρ1 js = ρ2) : wpS js S ρ = .nx ρ2 := by rw [wp_nx h, h2]
end
end PM
namespace PM
open PySem L2 PyProof.Rows
variable {pp : Pin}

/-! ### sets of keys that a comprehension fills -/
def withK (P : Program) (w : World) (H : Hp) (D : Addr) (S : Key → Bool) (n : Nat) (k : Key) : Hp := upd H D (SetK P w D (fun j => S j || decide (j = k)) (if S k = true then n else n + 1))
section
variable {X : Cx}
theorem addK_ok {pins : List (Addr × Obj)} {σ : L2.St} {H : Hp} {s : Shared} {E : Value → Shared → Prop} {D : Addr} {S : Key → Bool} {n : Nat} {k : Key} {u : Value} {Q : Value → Shared → Prop} (I : Inv X pins σ H s) (hD : H D = some (SetK X.prog X.w D S n)) (r : RelV (kV k) u) (room : n + 1 < scanBound)
    (h : ∀ s', Inv X pins σ (withK X.prog X.w H D S n k) s' → Q .none s') : wpAny (model X.prog X.w) X.A (call (.builtin "set.add") [.ref D, u]) Q E s := by
  refine call_set_add (kV_is r) (key_scan r) (setK_get I hD) room fun h' sb new => h _ ?_
  obtain ⟨o, _, _, _, ho, _⟩ := id new
  exact I.write (e := D) (t' := s.toks + 1) (by rw [hD]; trivial) (.inl rfl) (fun b u hb hu => (sb.2 b hb).trans hu) ⟨o, ho⟩ (setK_new new)
/-- one turn after another of {elt for target in iter if ..} -/
def tSk (P : Program) (w : World) (wi : TI) (g : TG) (tt : TT) (te : TE) (vs : List Nat) : TE := fun σ H Q => wi σ H fun J H1 => ∀ D, H1 D = none → ∃ W : Nat → Nat → Hp → Prop, (∃ m, W 0 m (upd H1 D (SetK P w D (fun _ => false) 0))) ∧ ∀ i m H, W i m H →
  (J.stop i H ∧ Q (.ref D) H) ∨ (J.go i H ∧ ∃ Nx : Hp → Prop, (∀ H', Nx H' → ∃ m', m' < m ∧ W (i + 1) m' H') ∧ ∀ x H', J.yld i H x H' → g x (wipe σ vs) H' fun σ2 H2 => wipe σ2 vs = wipe σ vs ∧ tt σ2 H2 fun b H3 =>
    if b = true then te σ2 H3 fun y H4 => ∃ (k : Key) (S : Key → Bool) (n : Nat), y = kV k ∧ H4 D = some (SetK P w D S n) ∧ n + 1 < scanBound ∧ Nx (withK P w H4 D S n k) else Nx H3)
theorem fresh_setK {P : Program} {w : World} {h : Heap} : (h.push { cls := .type "set", dict := none, data := .set #[] 0 (.fresh 0 0 (!w.params.followText "set-order")) }).SetOf (mixKind P w) h.objs.size (fun _ => false) 0 :=
  ⟨_, #[], 0, _, Heap.get?_push_size _ rfl, ⟨rfl, rfl, rfl⟩, rfl, (fun e he => by simp at he), (fun k => by simp), (by decide), (by rfl), rfl⟩

theorem pe_sk {elt tg iter : Expr} {ifs : List Expr} {scope : Scope} {own : List (Str × Nat)} {pos : Pos} {wi : TI} {g : TG} {tt : TT} {te : TE} (hc : X.calm = true) (hN : X.N.Nodup) (hi : PI X tg iter wi) (ok : BlkOk X.N X.env.scope scope own)
    (hg : ∀ (s : Shared) (H : Hp) (C : Addr) (cl : List (Str × Addr)) (fp : List Addr), PG (X.blk s H scope (compEnvC scope cl C X.env) fp) tg g)
    (ht : ∀ (s : Shared) (H : Hp) (C : Addr) (cl : List (Str × Addr)) (fp : List Addr), PTs (X.blk s H scope (compEnvC scope cl C X.env) fp) ifs tt)
    (he : ∀ (s : Shared) (H : Hp) (C : Addr) (cl : List (Str × Addr)) (fp : List Addr), PE (X.blk s H scope (compEnvC scope cl C X.env) fp) elt te) (hs : ∀ x, foldedSetIterable iter X.env x = pure x := by intro _; rfl) :
    PE X (.SetComp elt [⟨tg, iter, ifs, 0⟩] scope pos) (tSk X.prog X.w wi g tt te (own.map (·.2))) := by
  refine ⟨fun pins s σ H Q I h => ?_⟩
  rw [PpSet.eval_SetComp]
  have cells : ∀ y ∈ scope.names, y.2 = .free → ∃ c, X.env.cells.lookup y.1 = some c := fun y hy e => (ok.free y hy e).elim (fun k => I.ok.has _ (.inl k)) fun k => I.ok.has _ (.inr k)
  refine wpAny_comprehension_free (use := none) rfl hs (closure_ok cells) ok.kind (fun y hy e => by rw [ok.uniq y hy, e]) (thn (hi.run pins s σ H _ I h) fun xv s1 hx => thn hx fun itv s2 h2 => ?_)
  obtain ⟨it, fp, tn, J, H2, e, I2, T, st2, f2, q⟩ := h2
  subst e
  refine PpSet.newSet_ok (newEnv_comp ?_)
  have fresh := fresh_setK (P := X.prog) (w := X.w) (h := s2.heap)
  generalize hD : s2.heap.objs.size = D at fresh ⊢
  obtain ⟨W, ⟨m0, w0⟩, turn⟩ := q D (I2.hok.fresh (Nat.le_of_eq hD))
  generalize hs3 : ({ s2 with heap := s2.heap.push { cls := .type "set", dict := none, data := .set #[] 0 (.fresh 0 0 (!X.w.params.followText "set-order")) } } : Shared) = s3
  have h3 : s3.heap = s2.heap.push { cls := .type "set", dict := none, data := .set #[] 0 (.fresh 0 0 (!X.w.params.followText "set-order")) } := by rw [← hs3]
  have I3 : Inv X pins σ (upd H2 D (SetK X.prog X.w D (fun _ => false) 0)) s3 := by
    rw [← hs3]
    exact I2.laid (t' := s2.toks) (fun b o e => Heap.get?_push_of_some _ e) (Nat.le_of_eq hD) (setK_new fresh)
  have small : ∀ b ∈ fp, b < s2.heap.objs.size := fun b hb => by
    obtain ⟨o, e, _⟩ := T.obj _ _ st2 b hb
    exact Heap.lt_size e
  generalize hH3 : upd H2 D (SetK X.prog X.w D (fun _ => false) 0) = H3 at I3 w0
  have f3 : ∀ b ∈ fp, FpOk X pins H3 b ∧ b < s3.heap.objs.size := fun b hb => by
    have lt := small b hb
    refine ⟨⟨?_, (f2 b hb).2⟩, by rw [h3, Heap.size_push]; exact Nat.lt_succ_of_lt lt⟩
    rw [← hH3, upd_ne (by rw [← hD]; exact Nat.ne_of_lt lt)]
    exact (f2 b hb).1
  have I4 := block_start I3 ok hN f3
  have pg := hg s3 H3 s3.heap.objs.size (cellsFrom (s3.heap.objs.size + 1) scope.names (cloFrom X.env.cells scope.names [])) fp
  have pt := ht s3 H3 s3.heap.objs.size (cellsFrom (s3.heap.objs.size + 1) scope.names (cloFrom X.env.cells scope.names [])) fp
  have pe := he s3 H3 s3.heap.objs.size (cellsFrom (s3.heap.objs.size + 1) scope.names (cloFrom X.env.cells scope.names [])) fp
  show codeAny _ _ (.compStart (.SetComp elt [⟨tg, iter, ifs, 0⟩] scope pos) 0 (.ref it) (.ref D) (compEnvC scope (cellsFrom (s3.heap.objs.size + 1) scope.names (cloFrom X.env.cells scope.names [])) s3.heap.objs.size X.env)) (compPost (model X.prog X.w) X.A X.xe none _ (.ref D) s3.heap.objs.size) { s3 with heap := pushCells (s3.heap.push { cls := .type "dict", data := .dict #[] }) scope.names }
  have nfp : ∀ b ∈ fp, H3 b = none := fun b hb => (f3 b hb).1.1
  generalize hce : compEnvC scope (cellsFrom (s3.heap.objs.size + 1) scope.names (cloFrom X.env.cells scope.names [])) s3.heap.objs.size X.env = ce at I4 pg pt pe ⊢
  have cL : ce.locals = s3.heap.objs.size := by subst hce; rfl
  generalize hs4 : ({ s3 with heap := pushCells (s3.heap.push { cls := .type "dict", data := .dict #[] }) scope.names } : Shared) = s4 at I4 ⊢
  have st4 : tn 0 s4.heap := T.keep _ _ _ st2 fun b _ o e => by
    rw [← hs4]
    exact pushCells_keeps _ _ _ _ (Heap.get?_push_of_some _ (by rw [h3]; exact Heap.get?_push_of_some _ e))
  have stat : ∀ {σ' : L2.St} {H' : Hp} {s' : Shared}, Inv (X.blk s3 H3 scope ce fp) [] σ' H' s' → (∀ b ∈ fp, H' b = none) → ∀ b ∈ fp, FpOk (X.blk s3 H3 scope ce fp) [] H' b := fun {σ' H' s'} I' hn b hb =>
    ⟨hn b hb, (I'.ok.exf b hb).1, I'.ok.exfs b hb, .inl hb, fun x c e => (I'.ok.exf b hb).2 x c e, fun p hp => absurd (show p ∈ ([] : List (Addr × Obj)) ++ [] from hp) (by simp)⟩
  refine (fun loop => PpSet.codeAny_compStart_set loop (T.self X.A 0 _ _ _ st4 loop)) (PpSet.compLoopS_any (fun n s' => ∃ i H', Inv (X.blk s3 H3 scope ce fp) [] (wipe σ (own.map (·.2))) H' s' ∧ tn i s'.heap ∧ (∀ b ∈ fp, H' b = none) ∧ W i n H') ?_ m0 ⟨0, H3, I4, st4, nfp, w0⟩)
  rintro n s5 ⟨i, H5, I5, st5, n5, w5⟩
  rcases turn i n H5 w5 with ⟨stop, qq⟩ | ⟨go, Nx, hNx, step⟩
  · refine thnF (T.done (X.blk s3 H3 scope ce fp) rfl rfl rfl hc i [] s5 _ H5 (fun _ _ => False) I5 (stat I5 n5) st5 stop) fun r s6 ⟨hr, I6⟩ => ?_
    subst hr
    have I7 : Inv X pins σ H5 s6 := I3.call' (ch := fp) I6.os I6.base I6.hok I6.bare fun b hb => ⟨(f3 b hb).1.2.2.2.1, (f3 b hb).1.2.1, (f3 b hb).1.2.2.2.2.1, (f3 b hb).1.2.2.2.2.2⟩
    have nC : H5 s3.heap.objs.size = none := by
      have z : H5 ce.locals = none := I6.free
      rwa [cL] at z
    obtain ⟨m, hn, _⟩ := I6.loc
    have hn : s6.heap.Ns ce.locals m := hn
    rw [cL] at hn
    obtain ⟨f0, f1, f2, f3, f4, f5⟩ := I3.fpOk (Nat.le_refl _) nC
    exact ⟨m, hn, fun h'' sb => ⟨.ref D, H5, I7.turned (t' := s6.toks) (fun b o hb e => (sb.2 b hb).trans e) f0 f1 f3 f4 f5, rfl, qq⟩⟩
  · refine thnF (T.item (X.blk s3 H3 scope ce fp) rfl rfl rfl hc i [] s5 _ H5 (fun _ _ => False) I5 (stat I5 n5) st5 go) fun r s6 ⟨u, hr, h6⟩ => ?_
    subst hr
    refine thnF h6 fun _ s7 ⟨x, H7, I7, r7, y7, st7, n7⟩ => ?_
    refine thnF (pg.run _ s7 _ H7 x u _ (I7.pinned (stat I7 n7) (T.obj _ _ st7)) r7 (step x H7 y7)) fun _ s8 ⟨σ8, H8, I8, hw8, q8⟩ => ?_
    refine thnF (pt.run _ s8 σ8 H8 _ I8 q8) fun b s9 ⟨H9, I9, q9⟩ => ?_
    have fin : ∀ {s' : Shared} {H' : Hp}, Inv (X.blk s3 H3 scope ce fp) ([] ++ pinsAt fp s7.heap) σ8 H' s' → Nx H' → ∃ m, m < n ∧ ∃ i H', Inv (X.blk s3 H3 scope ce fp) [] (wipe σ (own.map (·.2))) H' s' ∧ tn i s'.heap ∧ (∀ b ∈ fp, H' b = none) ∧ W i m H' := fun {s' H'} I' nx => by
      obtain ⟨m', hm, w'⟩ := hNx H' nx
      have kept : ∀ b ∈ fp, ∀ o, s7.heap.get? b = some o → s'.heap.get? b = some o ∧ H' b = none := fun b hb o e =>
        let z := I'.pin (b, o) (List.mem_append_right _ (List.mem_append_right _ (mem_pinsAt hb e)))
        ⟨z.1, z.2.1⟩
      refine ⟨m', hm, i + 1, H', (I'.unpinned (pins := [])).weak (by rw [← hw8, wipe_length]) (fun j v e => ?_), T.keep _ _ _ st7 fun b hb o e => (kept b hb o e).1, fun b hb => ?_, w'⟩
      · rw [← hw8] at e
        exact (wipe_some e).1
      · obtain ⟨o, e, _⟩ := T.obj _ _ st7 b hb
        exact (kept b hb o e).2
    cases b with
    | false =>
      simp only [Bool.false_eq_true, if_false] at q9 ⊢
      exact fin I9 q9
    | true =>
      simp only [if_true] at q9 ⊢
      refine thnF (pe.run _ s9 σ8 H9 _ I9 q9) fun z s10 ⟨yv, H10, I10, r10, k, S0, n0, ey, hD10, hz10, nx⟩ => ?_
      subst ey
      exact addK_ok (X := X.blk s3 H3 scope ce fp) I10 hD10 r10 hz10 fun s11 I11 => fin I11 nx
/-- len of such a set -/
def rLenK (P : Program) (w : World) : List V → Hp → VK → Prop := fun xs H Q => ∃ (a : Addr) (S : Key → Bool) (n : Nat), xs = [.ref a] ∧ H a = some (SetK P w a S n) ∧ Q (.int n) H
theorem cr_lenK : CallR X (.builtin "len") (rLenK X.prog X.w) := by
  intro pins s σ H xs us Q I r h
  obtain ⟨a, S, n, rfl, ha, q⟩ := h
  cases r with
  | cons ru rt =>
    cases rt
    cases ru
    obtain ⟨o, es, ep, t, ho, hx, hd, _, _, hb, hf, hn⟩ := setK_get I ha
    refine call_len_set ho hx hd hf ?_ ⟨.int n, H, I.tok _, ⟨_, by rw [hn]⟩, q⟩
    have : scanBound = 4096 := rfl
    omega
end

/-! ### len({e for t in xs if ..}) -/
def keyD : D → Option Key
  | .int i => some (.inl i)
  | .str s => some (.inr (st s))
  | _ => none
def keysD : List D → Option (List Key)
  | [] => some []
  | x :: xs => match keyD x, keysD xs with
    | some k, some ks => some (k :: ks)
    | _, _ => none
def hasK (L : List Key) (k : Key) : Bool := L.any fun x => decide (k = x)
def addK (L : List Key) (k : Key) : List Key := if hasK L k = true then L else L ++ [k]
def lenSetE (A : M (List D)) (T : Tg) (G : M Bool) (E : M D) (vs : List Nat) : M Slot := A.bind fun ds ρ =>
  if clean vs ρ && decide (ds.length < 4000) then (match compF T G E vs ds ρ with
    | .ok xs ρ' => (match keysD xs with
      | some ks => .ok (false, .int (ks.foldl addK []).length) ρ'
      | none => .bad)
    | _ => .bad) else .bad
theorem keyD_rep {K : Fr} {F : Hp} {z : D} {y : V} {k : Key} (h : keyD z = some k) (r : Rep K F z y) : y = kV k := by
  unfold keyD at h
  split at h
  · cases h; exact r
  · cases h; exact r
  · cases h
theorem withK_eq {P : Program} {w : World} {H : Hp} {D : Addr} {L : List Key} {k : Key} : withK P w H D (hasK L) L.length k = upd H D (SetK P w D (hasK (addK L k)) (addK L k).length) := by
  unfold withK addK
  by_cases h : hasK L k = true
  · rw [if_pos h, if_pos h]
    congr 2
    funext j
    by_cases q : j = k
    · subst q; rw [h]; rfl
    · rw [decide_eq_false q, Bool.or_false]
  · rw [if_neg h, if_neg h, List.length_append, List.length_cons, List.length_nil]
    congr 2
    funext j
    unfold hasK
    rw [List.any_append, List.any_cons, List.any_nil, Bool.or_false]
theorem addK_le {L : List Key} {k : Key} : (addK L k).length ≤ L.length + 1 := by
  unfold addK
  split
  · omega
  · rw [List.length_append, List.length_cons, List.length_nil]; omega
theorem sk_tr {P : Program} {w : World} {c : Ct} {A : M (List D)} {T : Tg} {G : M Bool} {E : M D} {vs js : List Nat} {g : TG} (hg : TgOk c.K g T js) (hjs : ∀ j ∈ js, j ∈ vs) (fr : ∀ j ∈ vs, Pin.free c.pp j) {σ : L2.St} {H : Hp} {Q : VK} (h : tE c (lenSetE A T G E vs) σ H Q) :
    tSk P w (tJ c A) g (xT c G) (xF c E) vs σ H (fun v H' => rLenK P w [v] H' Q) := by
  obtain ⟨F, ρ, S, k⟩ := h
  refine ⟨F, ρ, S, k.step fun ds ρ1 J F1 H1 S1 r1 f1 h1 a1 D hD => ?_⟩
  have r1 : JOk c.K H1 F1 J ds := r1
  by_cases hcl : (clean vs ρ1 && decide (ds.length < 4000)) = true
  · rw [if_pos hcl] at a1
    have hcl := Bool.and_eq_true_iff.mp hcl
    have hsz : ds.length < 4000 := of_decide_eq_true hcl.2
    cases hall : compF T G E vs ds ρ1 with
    | exc e r => rw [hall] at a1; exact a1.elim
    | bad => rw [hall] at a1; exact a1.elim
    | ok xs ρe =>
      rw [hall] at a1
      dsimp only at a1
      cases hk : keysD xs with
      | none => rw [hk] at a1; exact a1.elim
      | some ks =>
      rw [hk] at a1
      dsimp only at a1
      have hF0 : c.F0 D = none := (S1.f0.trans S1.fh).none hD
      have hB0 : c.B D = none := S1.bh.none hD
      generalize hN : (ks.foldl addK []).length = N at a1
      refine ⟨fun i m H' => m = ds.length - i ∧ i ≤ ds.length ∧ ∃ F' ρ' L es kes, H' D = some (SetK P w D (hasK L) L.length) ∧ SR c.pp c.K (upd c.B D (SetK P w D (hasK L) L.length)) c.F0 F' H' σ ρ' ∧ Sub F1 F' ∧ Sub H1 H' ∧ clean vs ρ' = true ∧ ρ'.length = ρ1.length ∧ compF T G E vs (ds.drop i) ρ' = .ok es ρe ∧ keysD es = some kes ∧ (kes.foldl addK L).length = N ∧ L.length ≤ i,
        ⟨ds.length, rfl, Nat.zero_le _, F1, ρ1, [], xs, ks, by rw [upd_same]; rfl, S1.guard hD, Sub.refl _, Sub.upd hD, hcl.1, rfl, hall, hk, hN, Nat.le_refl _⟩, ?_⟩
      rintro i m H' ⟨rfl, hi, F', ρ', L, es, kes, hDu, S', f', g', cl', ln', hc, hke, hal, hLi⟩
      have hFD : F' D = none := S'.unheld hF0
      rcases Nat.lt_or_ge i ds.length with hlt | hge
      · refine .inr ⟨r1.go i H' g' hlt, ?_⟩
        refine ⟨fun H2 => ∃ F2 ρ2 L2 es2 kes2, H2 D = some (SetK P w D (hasK L2) L2.length) ∧ SR c.pp c.K (upd c.B D (SetK P w D (hasK L2) L2.length)) c.F0 F2 H2 σ ρ2 ∧ Sub F1 F2 ∧ Sub H1 H2 ∧ clean vs ρ2 = true ∧ ρ2.length = ρ1.length ∧ compF T G E vs (ds.drop (i + 1)) ρ2 = .ok es2 ρe ∧ keysD es2 = some kes2 ∧ (kes2.foldl addK L2).length = N ∧ L2.length ≤ i + 1,
          fun H2 hx => ⟨ds.length - (i + 1), by omega, rfl, by omega, hx⟩, fun x H2 y => ?_⟩
        obtain ⟨F2, d, g2, hd, rd⟩ := r1.yld i F' H' x H2 g' f' S'.fh hlt y
        have S2 := S'.grow g2
        have edrop : ds.drop i = d :: ds.drop (i + 1) := by
          rw [List.drop_eq_getElem_cons hlt]
          have : ds[i] = d := by
            rw [List.getElem?_eq_getElem hlt] at hd
            exact Option.some.inj hd
          rw [this]
        rw [edrop] at hc
        unfold compF at hc
        cases hT : T d (wipeE ρ' vs) with
        | none => rw [hT] at hc; cases hc
        | some ρ2 =>
          rw [hT] at hc
          dsimp only at hc
          refine hg.run _ _ _ _ _ _ _ d x ρ2 _ (fun j hj => fr j (hjs j hj)) (S2.wipe vs fr) rd hT fun σ2 T2 l2 k2 => ?_
          rw [wipe_length] at l2
          have hs : ∀ j, j ∉ vs → σ2[j]? = σ[j]? := fun j hj => by rw [(k2 j fun z => hj (hjs j z)).1, wipe_get hj]
          have hDu2 := g2.h D _ hDu
          refine ⟨wipe_ext l2 hs, upd c.B D (SetK P w D (hasK L) L.length), F2, ρ2, T2, ?_⟩
          cases hG : G ρ2 with
          | exc e r => rw [hG] at hc; cases hc
          | bad => rw [hG] at hc; cases hc
          | ok b ρ3 =>
            rw [hG] at hc
            intro b' F3 H3 S3 f3 h3 eb
            have eb : b' = b := eb
            subst eb
            have l3 : ρ3.length = ρ'.length := by rw [← S3.len, l2, S'.len]
            cases b' with
            | false =>
              dsimp only at hc
              simp only [Bool.false_eq_true, if_false]
              exact ⟨F3, restE ρ' ρ3 vs, L, es, kes, h3 D _ hDu2, S'.rest S3 (g2.f.trans f3) l2 hs cl', (f'.trans g2.f).trans f3, (g'.trans g2.h).trans h3, clean_rest cl' l3, by rw [rest_length, l3, ln'], hc, hke, hal, by omega⟩
            | true =>
              dsimp only at hc
              simp only [if_true]
              refine ⟨upd c.B D (SetK P w D (hasK L) L.length), F3, ρ3, S3, ?_⟩
              cases hE : E ρ3 with
              | exc e r => rw [hE] at hc; cases hc
              | bad => rw [hE] at hc; cases hc
              | ok z ρ4 =>
                rw [hE] at hc
                dsimp only at hc
                intro y F4 H4 S4 f4 h4 ry
                have ry : Rep c.K F4 z y := ry
                have hDu4 := h4 D _ (h3 D _ hDu2)
                have l4 : ρ4.length = ρ'.length := by rw [← S4.len, l2, S'.len]
                have hFD4 : F4 D = none := S4.unheld hF0
                cases hR : compF T G E vs (ds.drop (i + 1)) (restE ρ' ρ4 vs) with
                | exc e r => rw [hR] at hc; cases hc
                | bad => rw [hR] at hc; cases hc
                | ok es2 r =>
                  rw [hR] at hc
                  dsimp only at hc
                  cases hc
                  unfold keysD at hke
                  split at hke
                  · rename_i k1 kes2 hk1 hk2
                    cases hke
                    refine ⟨k1, _, _, keyD_rep hk1 ry, hDu4, by have : scanBound = 4096 := rfl; omega, ?_⟩
                    rw [withK_eq]
                    refine ⟨F4, restE ρ' ρ4 vs, addK L k1, es2, kes2, upd_same, (S'.rest S4 ((g2.f.trans f3).trans f4) l2 hs cl').regard hFD4, ((f'.trans g2.f).trans f3).trans f4, fun a o e => ?_, clean_rest cl' l4, by rw [rest_length, l4, ln'], hR, hk2, hal, Nat.le_trans addK_le (by omega)⟩
                    have na : a ≠ D := ne_of_none e hD
                    rw [upd_ne na]
                    exact h4 a o (h3 a o (g2.h a o (g' a o e)))
                  · cases hke
      · refine .inl ⟨r1.stop i H' g' hge, ?_⟩
        have e0 : ds.drop i = [] := List.drop_eq_nil_of_le hge
        rw [e0] at hc
        cases hc
        cases hke
        have hal : L.length = N := hal
        refine ⟨D, _, _, rfl, hDu, ?_⟩
        rw [hal]
        exact a1 (.int N) F' H' (S'.unguard hB0) f' g' ⟨rfl, fun z => by cases z⟩
  · rw [if_neg hcl] at a1
    exact a1.elim
section
variable {X : Cx} {c : Ct}
theorem e_lenSet {elt tg iter : Expr} {ifs : List Expr} {scope : Scope} {own : List (Str × Nat)} {p spos pos : Pos} {x : Str} {A : M (List D)} {g : TG} {T : Tg} {js : List Nat} {G : M Bool} {E : M D} (hgl : Gl X x) (hm : X.mg x = none) (hv : bootBuiltins x = some (.builtin "len")) (hc : X.calm = true) (hN : X.N.Nodup) (hi : PI X tg iter (tJ c A)) (ok : BlkOk X.N X.env.scope scope own)
    (hg : ∀ (s : Shared) (H : Hp) (C : Addr) (cl : List (Str × Addr)) (fp : List Addr), PG (X.blk s H scope (compEnvC scope cl C X.env) fp) tg g) (hT : TgOk c.K g T js) (hj : ∀ j ∈ js, j ∈ own.map (·.2))
    (ht : ∀ (s : Shared) (H : Hp) (C : Addr) (cl : List (Str × Addr)) (fp : List Addr), PTs (X.blk s H scope (compEnvC scope cl C X.env) fp) ifs (xT c G))
    (he : ∀ (s : Shared) (H : Hp) (C : Addr) (cl : List (Str × Addr)) (fp : List Addr), PE (X.blk s H scope (compEnvC scope cl C X.env) fp) elt (xF c E)) (hs : ∀ x, foldedSetIterable iter X.env x = pure x := by intro _; rfl)
    (fr : ∀ j ∈ own.map (·.2), Pin.free c.pp j := by exact fun _ _ => PM.Pin.free_no) (hn : x ≠ "__name__" := by decide) (hdb : (x == ("__debug__" : Str)) = false := by decide)
    (hst : starEach [.SetComp elt [⟨tg, iter, ifs, 0⟩] scope spos] X.env = [(false, eval (.SetComp elt [⟨tg, iter, ifs, 0⟩] scope spos) X.env)] := by rfl) :
    PE X (.Call (.Name x p) [.SetComp elt [⟨tg, iter, ifs, 0⟩] scope spos] [] pos) (tE c (lenSetE A T G E (own.map (·.2)))) :=
  (pe_callB cr_lenK hgl hm hv (pa_cons (pe_sk hc hN hi ok hg ht he hs) pa_nil hst) hn hdb hst rfl).imp fun _ _ _ h => sk_tr hT hj fr h
end
end PM
/-! ### enumerate of a text, zip of two texts -/
namespace PM
open PySem L2 PySem.Spec PyProof.Rows PySem.Calls
/-- the signs of a text, each in a new pair -/
def Ites (x : Str) : It :=
  ⟨fun i _ => i < x.cps.size, fun i H v H' => ∃ T c, v = .ref T ∧ H T = none ∧ x.cps[i]? = some c ∧ H' = upd H T (.tup [.int (i : Nat), .str ⟨#[c]⟩]), fun i _ => x.cps.size ≤ i⟩
theorem turn_enumS {P : Program} {w : World} {K : PySem.W.Frag} {elts : List Expr} {kk : Nat} {tpos : Pos} (x : Str) (t : Tok) (e it : Addr) :
    Turn P w K (.Tuple elts kk tpos) (Ites x) [e, it] e (fun i h => (∃ old, IsEnum h e it ((i : Nat) : Int) old) ∧ h.IsStrIter it (strIterType x) x t i ∧ i ≤ x.cps.size ∧ e ≠ it) where
  mem := by simp
  obj := fun i h st b hb => by
    obtain ⟨⟨old, he⟩, ⟨o, ho, hc, hd⟩, _⟩ := st
    have e' : b = e ∨ b = it := by simpa using hb
    rcases e' with z | z
    · rw [z]; exact ⟨_, he, fun v q => nomatch q⟩
    · rw [z]; exact ⟨o, ho, fun v q => by rw [hd] at q; cases q⟩
  keep := fun i h h' st k => let ⟨⟨old, he⟩, ⟨o, ho, r⟩, hle, hne⟩ := st; ⟨⟨old, k e (by simp) _ he⟩, ⟨o, k it (by simp) o ho, r⟩, hle, hne⟩
  item := by
    intro X hP hw hK hc i pins s σ H E I hf st hg
    subst hP hw hK
    obtain ⟨⟨old, he⟩, hit, hle, hne⟩ := st
    have hg : i < x.cps.size := hg
    have hel : e < s.heap.objs.size := Heap.lt_size he
    have hil : it < s.heap.objs.size := by obtain ⟨_, q, _⟩ := hit; exact Heap.lt_size q
    have hD := Draws.text (prog := X.prog) (w := X.w) (A := X.A.in1) (I.ok.hd hc) it x t
    refine wpAny_pyNext_enum_itemD hD he hit hg hne (by simpa using hne) fun y h' tk hy ho hst' hT hsz hk => ?_
    obtain ⟨c, u, hcx, rfl⟩ := hy
    refine ⟨_, rfl, wpAny_letOwnedTupleGo_enum (s := { s with heap := h', toks := tk + 1 }) ho fun h'' he' sb => ?_⟩
    have hT2 : h''.get? s.heap.objs.size = some { cls := .type "tuple", data := .seq #[.int i tk, .str ⟨#[c]⟩ u] } := (sb.2 _ (Nat.ne_of_gt hel)).trans hT
    have new : ObjOk X.prog X.w (upd H s.heap.objs.size (.tup [.int (i : Nat), .str ⟨#[c]⟩])) h'' s.heap.objs.size (.tup [.int (i : Nat), .str ⟨#[c]⟩]) :=
      ⟨by show 2 ≤ sizeLine; decide, [.int i tk, .str ⟨#[c]⟩ u], .cons ⟨_, rfl⟩ (.cons ⟨_, rfl⟩ .nil), ⟨_, hT2, rfl, _, rfl⟩⟩
    have I1 : Inv X pins σ (upd H s.heap.objs.size (.tup [.int (i : Nat), .str ⟨#[c]⟩])) { s with heap := h'', toks := tk + 1 } :=
      I.turnedNew (ch := [e, it]) (fun b ob hb q => (sb.2 b (fun z => hb (by simp [z]))).trans (hk b ob (fun z => hb (by simp [z])) (fun z => hb (by simp [z])) q)) hf (Nat.le_refl _) new
    refine ⟨.ref s.heap.objs.size, _, I1, rfl, ⟨_, c, rfl, I.hok.fresh (Nat.le_refl _), hcx, rfl⟩, ⟨⟨.str ⟨#[c]⟩ u, ?_⟩, ?_, hg, hne⟩, fun b hb => ?_⟩
    · have e1 : ((i + 1 : Nat) : Int) = (i : Int) + 1 := by omega
      rw [e1]; exact he'
    · obtain ⟨o, ho, r⟩ := hst'
      exact ⟨o, (sb.2 it (Ne.symm hne)).trans ho, r⟩
    · have hb' : b < s.heap.objs.size := by
        have e' : b = e ∨ b = it := by simpa using hb
        rcases e' with z | z
        · rw [z]; exact hel
        · rw [z]; exact hil
      rw [upd_ne (Nat.ne_of_lt hb')]
      exact (hf b hb).1
  done := by
    intro X hP hw hK hc i pins s σ H E I hf st hg
    subst hP hw hK
    obtain ⟨⟨old, he⟩, hit, hle, hne⟩ := st
    have hg : x.cps.size ≤ i := hg
    obtain ⟨f0, f1, f2, f3, f4, f5⟩ := hf it (by simp)
    have hi : i = x.cps.size := Nat.le_antisymm hle hg
    have hD := Draws.text (prog := X.prog) (w := X.w) (A := X.A.in1) (I.ok.hd hc) it x t
    exact wpAny_pyNext_enum_endD hD he (by rw [← hi]; exact hit) fun h' eb => ⟨rfl, I.turned (t' := s.toks) (fun b o hb q => eb b o hb q) f0 f1 f3 f4 f5⟩
  self := fun A i s Q E st h => let ⟨⟨_, he⟩, _⟩ := st; wpAny_pyIter_enum he h
def iEnumA (K : PySem.W.Frag) (ta : TA) : TI := fun σ H R => ta σ H fun vs H1 => (∃ a xs, vs = [.ref a] ∧ ((SqL K H1 a xs ∧ R (Ite K a) H1) ∨ (SqT K H1 a xs ∧ R (Itet K a) H1))) ∨ ∃ x, vs = [.str x] ∧ R (Ites x) H1
theorem pi_enumA {X : Cx} {e : Expr} {ta : TA} {p pos tpos : Pos} {elts : List Expr} {kk : Nat} (hg : Gl X "enumerate") (hm : X.mg "enumerate" = none) (ha : PA X [e] ta) (hs : starEach [e] X.env = [(false, eval e X.env)] := by rfl) :
    PI X (.Tuple elts kk tpos) (.Call (.Name "enumerate" p) [e] [] pos) (iEnumA X.K ta) := by
  refine ⟨fun pins s σ H R I h => ?_⟩
  refine Call_ (ld_blt I hg hm boot_enumerate (PyProof.Rows.callWith_type1 (thn (ha.run pos pins s σ H _ I h) fun us s1 ⟨vs, H1, I1, r1, q1⟩ => ?_) hs rfl))
  have two : ∀ b ∈ [s1.heap.objs.size + 1, s1.heap.objs.size], FpOk X pins H1 b := fun b hb => by
    have e' : b = s1.heap.objs.size + 1 ∨ b = s1.heap.objs.size := by simpa using hb
    have hle : s1.heap.objs.size ≤ b := by
      rcases e' with z | z
      · rw [z]; exact Nat.le_add_right _ _
      · rw [z]; exact Nat.le_refl _
    exact I1.fpOk hle (I1.hok.fresh hle)
  rcases q1 with ⟨a, xs, ex, hq⟩ | ⟨x, ex, q⟩
  · subst ex
    cases r1 with
    | cons r rr =>
      cases rr
      cases r
      rcases hq with ⟨hq, q⟩ | ⟨hq, q⟩
      · obtain ⟨its, rv, p', hz⟩ := I1.list hq
        refine call_enumerate_list p'.isList fun h' he hit hsz hk => wpAny_pyIter_enum he ?_
        exact ⟨s1.heap.objs.size + 1, [s1.heap.objs.size + 1, s1.heap.objs.size], _, _, H1, rfl, I1.kept (t' := s1.toks) hk, turn_enum a (s1.heap.objs.size + 1) s1.heap.objs.size, ⟨⟨.none, he⟩, hit, Nat.succ_ne_self _⟩, two, q⟩
      · obtain ⟨its, rv, p', hz⟩ := I1.tuple hq
        have hpt : s1.heap.IsTuple a its.toArray := p'
        have hal : a < s1.heap.objs.size := by obtain ⟨_, q, _⟩ := hpt; exact Heap.lt_size q
        refine call_enumT hpt fun h' he hit hsz hk => wpAny_pyIter_enum he ?_
        exact ⟨s1.heap.objs.size + 1, [s1.heap.objs.size + 1, s1.heap.objs.size], _, _, H1, rfl, I1.kept (t' := s1.toks) hk, turn_enumT a (s1.heap.objs.size + 1) s1.heap.objs.size, ⟨⟨.none, he⟩, hit, Nat.succ_ne_self _, Nat.ne_of_lt hal, Nat.ne_of_gt (Nat.lt_succ_of_lt hal)⟩, two, q⟩
  · subst ex
    cases r1 with
    | cons r rr =>
      cases rr
      obtain ⟨t, rfl⟩ := r
      refine call_enumerate_str fun h' he hit hsz hk => wpAny_pyIter_enum he ?_
      exact ⟨s1.heap.objs.size + 1, [s1.heap.objs.size + 1, s1.heap.objs.size], _, _, H1, rfl, I1.kept (t' := s1.toks) hk, turn_enumS x t (s1.heap.objs.size + 1) s1.heap.objs.size, ⟨⟨.none, he⟩, hit, Nat.zero_le _, Nat.succ_ne_self _⟩, two, q⟩
theorem jok_enumS {K : Fr} {C F1 : Hp} {s : List Nat} : JOk K C F1 (Ites (st s)) (pairs 0 (signs s)) where
  go := fun i H h hi => by
    rw [pairs_len] at hi
    show i < (st s).cps.size
    simpa [signs, st] using hi
  yld := fun i F H x H' h f fh hi y => by
    obtain ⟨T, k, rfl, hT, hk, rfl⟩ := y
    have hk' : s[i]? = some k := by simpa [st] using hk
    refine ⟨upd F T (.tup [.int (i : Nat), .str ⟨#[k]⟩]), .tup [.int ((i : Nat) : Int), .str [k]], growT fh hT, by rw [pairs_get]; unfold signs; rw [List.getElem?_map, hk']; simp, ?_⟩
    unfold Rep
    exact ⟨T, _, rfl, .inl (.inl upd_same), Reps.cons rfl (Reps.cons rfl Reps.nil)⟩
  stop := fun i H h hi => by
    rw [pairs_len] at hi
    show (st s).cps.size ≤ i
    simpa [signs, st] using hi
/-- enumerate of a list, a tuple or a text -/
def enumA (R : M (List D)) : M (List D) := R.bind fun ds => M.lift (match ds with | [.lst xs] => some (pairs 0 xs) | [.tup xs] => some (pairs 0 xs) | [.str s] => some (pairs 0 (signs s)) | _ => none)
section
variable {X : Cx} {c : Ct} {e : Expr} {p pos : Pos}
theorem j_enumA {R : M (List D)} {tpos : Pos} {elts : List Expr} {kk : Nat} (hk : c.K = X.K) (hg : Gl X "enumerate") (hm : X.mg "enumerate" = none) (ha : PA X [e] (tPs c R)) (hs : starEach [e] X.env = [(false, eval e X.env)] := by rfl) :
    PI X (.Tuple elts kk tpos) (.Call (.Name "enumerate" p) [e] [] pos) (tJ c (enumA R)) := by
  refine (pi_enumA hg hm ha hs).imp fun σ H Q ⟨F, ρ, S, k⟩ => ⟨F, ρ, S, k.step fun ds ρ1 xs F1 H1 S1 r1 f1 h1 a1 => ?_⟩
  obtain ⟨as, e, q⟩ := a1.liftA S1
  rw [← hk]
  split at e
  · cases e
    obtain ⟨x, rfl, a, vs, rfl, h2, k2⟩ := PkRs.one r1
    exact .inl ⟨a, vs, rfl, .inl ⟨.inl h2, q _ F1 H1 (Grow.refl S1.fh) (jok_enum h2 k2)⟩⟩
  · cases e
    obtain ⟨x, rfl, r2⟩ := PkRs.one r1
    have r2 : PkR c.K F1 H1 (.tup _) x := r2
    obtain ⟨a, vs, rfl, h2, k2⟩ := r2
    exact .inl ⟨a, vs, rfl, .inr ⟨S1.fh.sqT h2, q _ F1 H1 (Grow.refl S1.fh) (jok_enumT (S1.fh.sqT h2) k2)⟩⟩
  · cases e
    obtain ⟨x, rfl, r2⟩ := PkRs.one r1
    have r2 : x = .str (st _) := r2
    subst r2
    exact .inr ⟨_, rfl, q _ F1 H1 (Grow.refl S1.fh) jok_enumS⟩
  · cases e
theorem k_enumA {R : M (List D)} {tpos : Pos} {elts : List Expr} {kk : Nat} (hk : c.K = X.K) (hg : Gl X "enumerate") (hm : X.mg "enumerate" = none) (ha : PA X [e] (tFs c R)) (hs : starEach [e] X.env = [(false, eval e X.env)] := by rfl) :
    PI X (.Tuple elts kk tpos) (.Call (.Name "enumerate" p) [e] [] pos) (tK c (enumA R)) := by
  refine (pi_enumA hg hm ha hs).imp fun σ H Q ⟨F, ρ, S, k⟩ => ⟨F, ρ, S, k.step fun ds ρ1 xs F1 H1 S1 r1 f1 h1 a1 => ?_⟩
  obtain ⟨as, e, q⟩ := a1.liftA S1
  rw [← hk]
  split at e
  · cases e
    obtain ⟨x, r, rfl, k2, k3⟩ := Reps.inv r1
    have k3 := k3.inv0
    subst k3
    unfold Rep at k2
    obtain ⟨a, vs, rfl, h2, k2⟩ := k2
    exact .inl ⟨a, vs, rfl, .inl ⟨.inl (S1.fh.rd h2), q _ F1 H1 (Grow.refl S1.fh) (jok_enum h2 k2)⟩⟩
  · cases e
    obtain ⟨x, r, rfl, k2, k3⟩ := Reps.inv r1
    have k3 := k3.inv0
    subst k3
    unfold Rep at k2
    obtain ⟨a, vs, rfl, h2, k2⟩ := k2
    exact .inl ⟨a, vs, rfl, .inr ⟨S1.fh.sqT h2, q _ F1 H1 (Grow.refl S1.fh) (jok_enumT h2 k2)⟩⟩
  · cases e
    obtain ⟨x, r, rfl, k2, k3⟩ := Reps.inv r1
    have k3 := k3.inv0
    subst k3
    have k2 : x = .str (st _) := k2
    subst k2
    exact .inr ⟨_, rfl, q _ F1 H1 (Grow.refl S1.fh) jok_enumS⟩
  · cases e
end

/-- the signs of two texts, in new pairs -/
def Itzs (x y : Str) : It :=
  ⟨fun i _ => i < x.cps.size ∧ i < y.cps.size, fun i H v H' => ∃ T c d, v = .ref T ∧ H T = none ∧ x.cps[i]? = some c ∧ y.cps[i]? = some d ∧ H' = upd H T (.tup [.str ⟨#[c]⟩, .str ⟨#[d]⟩]), fun i _ => x.cps.size ≤ i ∨ y.cps.size ≤ i⟩
theorem strIter_at {h h' : Heap} {a : Addr} {ty : String} {x : Str} {t : Tok} {i : Nat} (y : h.IsStrIter a ty x t i) (k : ∀ o, h.get? a = some o → h'.get? a = some o) : h'.IsStrIter a ty x t i :=
  let ⟨o, ho, r⟩ := y; ⟨o, k o ho, r⟩
theorem turn_zipS {P : Program} {w : World} {K : PySem.W.Frag} {elts : List Expr} {kk : Nat} {tpos : Pos} {x y : Str} {t u : Tok} {z TI TO i1 i2 : Addr} (S : ZipSep2 z TI TO i1 i2 [i1] [i2]) :
    Turn P w K (.Tuple elts kk tpos) (Itzs x y) [z, TI, TO, i1, i2] z (fun i h => IsZip h z TI TO .none ∧ IsTupOf2 h TI (.ref i1) (.ref i2) ∧ (∃ a b, IsTupOf2 h TO a b) ∧ h.IsStrIter i1 (strIterType x) x t i ∧ h.IsStrIter i2 (strIterType y) y u i ∧ i ≤ x.cps.size ∧ i ≤ y.cps.size) where
  mem := by simp
  obj := fun i h st c hc => by
    obtain ⟨hz, hTI, ⟨a, b, hTO⟩, ⟨o1, e1, _, d1⟩, ⟨o2, e2, _, d2⟩, _⟩ := st
    have e' : c = z ∨ c = TI ∨ c = TO ∨ c = i1 ∨ c = i2 := by simpa using hc
    rcases e' with q | q | q | q | q
    · rw [q]; exact ⟨_, hz, fun v q => nomatch q⟩
    · rw [q]; exact ⟨_, hTI, fun v q => nomatch q⟩
    · rw [q]; exact ⟨_, hTO, fun v q => nomatch q⟩
    · rw [q]; exact ⟨o1, e1, fun v q => by rw [d1] at q; cases q⟩
    · rw [q]; exact ⟨o2, e2, fun v q => by rw [d2] at q; cases q⟩
  keep := fun i h h' st k => by
    obtain ⟨hz, hTI, ⟨a, b, hTO⟩, h1, h2, l1, l2⟩ := st
    exact ⟨k z (by simp) _ hz, k TI (by simp) _ hTI, ⟨a, b, k TO (by simp) _ hTO⟩, strIter_at h1 fun o q => k i1 (by simp) o q, strIter_at h2 fun o q => k i2 (by simp) o q, l1, l2⟩
  item := by
    intro X hP hw hK hc i pins s σ H E I hf st hg
    subst hP hw hK
    obtain ⟨hz, hTI, ⟨a0, b0, hTO⟩, h1, h2, l1, l2⟩ := st
    obtain ⟨g1, g2⟩ : i < x.cps.size ∧ i < y.cps.size := hg
    have hzl : z < s.heap.objs.size := Heap.lt_size hz
    have D1 := Draws.text (prog := X.prog) (w := X.w) (A := X.A.in1) (I.ok.hd hc) i1 x t
    have D2 := Draws.text (prog := X.prog) (w := X.w) (A := X.A.in1) (I.ok.hd hc) i2 y u
    refine wpAny_pyNext_zipD2_item S D1 D2 hz hTI hTO h1 h2 g1 g2 fun v1 v2 h' tk p1 p2 z' TO' h1' h2' hT hsz hk => ?_
    obtain ⟨c, t1, hc1, rfl⟩ := p1
    obtain ⟨d, t2, hd1, rfl⟩ := p2
    refine ⟨_, rfl, wpAny_letOwnedTupleGo_zip (s := { s with heap := h', toks := tk }) z' fun h'' z'' sb => ?_⟩
    have hT2 : h''.get? s.heap.objs.size = some { cls := .type "tuple", data := .seq #[.str ⟨#[c]⟩ t1, .str ⟨#[d]⟩ t2] } := (sb.2 _ (Nat.ne_of_gt hzl)).trans hT
    have new : ObjOk X.prog X.w (upd H s.heap.objs.size (.tup [.str ⟨#[c]⟩, .str ⟨#[d]⟩])) h'' s.heap.objs.size (.tup [.str ⟨#[c]⟩, .str ⟨#[d]⟩]) :=
      ⟨by show 2 ≤ sizeLine; decide, [.str ⟨#[c]⟩ t1, .str ⟨#[d]⟩ t2], .cons ⟨_, rfl⟩ (.cons ⟨_, rfl⟩ .nil), ⟨_, hT2, rfl, _, rfl⟩⟩
    have I1 : Inv X pins σ (upd H s.heap.objs.size (.tup [.str ⟨#[c]⟩, .str ⟨#[d]⟩])) { s with heap := h'', toks := tk } :=
      I.turnedNew (ch := [z, TI, TO, i1, i2]) (fun c o hb q => (sb.2 c (fun q' => hb (by simp [q']))).trans (hk c o (fun q' => hb (by simp [q'])) (fun q' => hb (by simp [q'])) (fun q' => hb (by simp [q'])) (fun q' => hb (by simp [q'])) q)) hf (Nat.le_refl _) new
    have i1z : i1 ≠ z := fun q => S.zf1 (by simp [q])
    have i2z : i2 ≠ z := fun q => S.zf2 (by simp [q])
    refine ⟨.ref s.heap.objs.size, _, I1, rfl, ⟨_, c, d, rfl, I.hok.fresh (Nat.le_refl _), hc1, hd1, rfl⟩, ⟨z'', ?_, ⟨.str ⟨#[c]⟩ t1, .str ⟨#[d]⟩ t2, ?_⟩, ?_, ?_, g1, g2⟩, fun c hcm => ?_⟩
    · exact (sb.2 _ S.TIz).trans (hk _ _ S.TIz S.TITO S.TIi1 S.TIi2 hTI)
    · exact (sb.2 _ S.TOz).trans TO'
    · exact strIter_at h1' fun o q => (sb.2 _ i1z).trans q
    · exact strIter_at h2' fun o q => (sb.2 _ i2z).trans q
    · have hlt : c < s.heap.objs.size := by
        have e' : c = z ∨ c = TI ∨ c = TO ∨ c = i1 ∨ c = i2 := by simpa using hcm
        rcases e' with q | q | q | q | q
        · rw [q]; exact hzl
        · rw [q]; exact Heap.lt_size hTI
        · rw [q]; exact Heap.lt_size hTO
        · rw [q]; obtain ⟨_, e1, _⟩ := h1; exact Heap.lt_size e1
        · rw [q]; obtain ⟨_, e2, _⟩ := h2; exact Heap.lt_size e2
      rw [upd_ne (Nat.ne_of_lt hlt)]
      exact (hf c hcm).1
  done := by
    intro X hP hw hK hc i pins s σ H E I hf st hg
    subst hP hw hK
    obtain ⟨hz, hTI, ⟨a0, b0, hTO⟩, h1, h2, l1, l2⟩ := st
    have hg : x.cps.size ≤ i ∨ y.cps.size ≤ i := hg
    have D1 := Draws.text (prog := X.prog) (w := X.w) (A := X.A.in1) (I.ok.hd hc) i1 x t
    have D2 := Draws.text (prog := X.prog) (w := X.w) (A := X.A.in1) (I.ok.hd hc) i2 y u
    exact wpAny_pyNext_zipD2_end S D1 D2 hz hTI hTO h1 h2 l1 l2 (hg.imp (Nat.le_antisymm l1) (Nat.le_antisymm l2)) fun h' tk hk => ⟨rfl, I.turnedL (t' := tk) (ch := [z, TI, TO, i1, i2]) (fun c o hb q =>
      hk c o (fun q' => hb (by simp [q'])) (fun q' => hb (by simp [q'])) (fun q' => hb (by simp [q'])) (fun q' => hb (by simp [q'])) q) hf⟩
  self := fun A i s Q E st h => wpAny_pyIter_zip st.1 h
theorem sep_new (n : Nat) : ZipSep2 (n + 4) (n + 2) (n + 3) n (n + 1) [n] [n + 1] := by
  constructor <;> simp <;> omega
def iZipB (K : PySem.W.Frag) (ta : TA) : TI := fun σ H R => ta σ H fun vs H1 => (∃ a b xs ys, vs = [.ref a, .ref b] ∧ SqL K H1 a xs ∧ SqL K H1 b ys ∧ R (Itz K a b) H1) ∨ ∃ x y, vs = [.str x, .str y] ∧ R (Itzs x y) H1
theorem pi_zipB {X : Cx} {e e2 : Expr} {ta : TA} {p pos tpos : Pos} {elts : List Expr} {kk : Nat} (hg : Gl X "zip") (hm : X.mg "zip" = none) (ha : PA X [e, e2] ta)
    (hs : starEach [e, e2] X.env = (false, eval e X.env) :: starEach [e2] X.env := by rfl) (hpl : (backTo pos (starEach [e2] X.env)).any (·.1) = false := by rfl) :
    PI X (.Tuple elts kk tpos) (.Call (.Name "zip" p) [e, e2] [] pos) (iZipB X.K ta) := by
  refine ⟨fun pins s σ H R I h => ?_⟩
  refine Call_ (ld_blt I hg hm PyProof.Rows.boot_zip (PyProof.Rows.callWith_type1 (thn (ha.run pos pins s σ H _ I h) fun us s1 ⟨vs, H1, I1, r1, q1⟩ => ?_) hs hpl))
  have fresh5 : ∀ c, c ∈ [s1.heap.objs.size + 4, s1.heap.objs.size + 2, s1.heap.objs.size + 3, s1.heap.objs.size, s1.heap.objs.size + 1] → FpOk X pins H1 c := fun c hcm => by
    have e' : c = s1.heap.objs.size + 4 ∨ c = s1.heap.objs.size + 2 ∨ c = s1.heap.objs.size + 3 ∨ c = s1.heap.objs.size ∨ c = s1.heap.objs.size + 1 := by simpa using hcm
    have hle : s1.heap.objs.size ≤ c := by
      rcases e' with z | z | z | z | z
      · rw [z]; exact Nat.le_add_right _ _
      · rw [z]; exact Nat.le_add_right _ _
      · rw [z]; exact Nat.le_add_right _ _
      · rw [z]; exact Nat.le_refl _
      · rw [z]; exact Nat.le_add_right _ _
    exact I1.fpOk hle (I1.hok.fresh hle)
  rcases q1 with ⟨a, b, xs, ys, ex, hqx, hqy, q⟩ | ⟨x, y, ex, q⟩
  · subst ex
    cases r1 with
    | cons r rr =>
      cases rr with
      | cons r' rr =>
        cases rr
        cases r
        cases r'
        obtain ⟨its, rv, p1, _⟩ := I1.list hqx
        obtain ⟨its2, rv2, p2, _⟩ := I1.list hqy
        refine call_zip_2 p1.isList p2.isList fun h' hz hTI hTO h1 h2 hsz hk => wpAny_pyIter_zip hz ?_
        exact ⟨s1.heap.objs.size + 4, [s1.heap.objs.size + 4, s1.heap.objs.size + 2, s1.heap.objs.size + 3, s1.heap.objs.size, s1.heap.objs.size + 1], _, _, H1, rfl, I1.kept (t' := s1.toks) hk, turn_zip (PySem.W.ktu_apart s1.heap.objs.size a b p1.lt p2.lt), ⟨hz, hTI, ⟨_, _, hTO⟩, h1, h2⟩, fresh5, q⟩
  · subst ex
    cases r1 with
    | cons r rr =>
      cases rr with
      | cons r' rr =>
        cases rr
        obtain ⟨t, rfl⟩ := r
        obtain ⟨u, rfl⟩ := r'
        refine zip_begins2 (begins_text x t) (begins_text y u) trivial trivial fun h' hz hTI hTO h1 h2 hsz hk => wpAny_pyIter_zip hz ?_
        exact ⟨s1.heap.objs.size + 4, [s1.heap.objs.size + 4, s1.heap.objs.size + 2, s1.heap.objs.size + 3, s1.heap.objs.size, s1.heap.objs.size + 1], _, _, H1, rfl, I1.kept (t' := s1.toks) hk, turn_zipS (x := x) (y := y) (t := t) (u := u) (sep_new _), ⟨hz, hTI, ⟨_, _, hTO⟩, ⟨_, h1, rfl, rfl⟩, ⟨_, h2, rfl, rfl⟩, Nat.zero_le _, Nat.zero_le _⟩, fresh5, q⟩
theorem jok_zipS {K : Fr} {C F1 : Hp} {a b : List Nat} : JOk K C F1 (Itzs (st a) (st b)) (zips (signs a) (signs b)) where
  go := fun i H h hi => by
    rw [zips_len] at hi
    show i < (st a).cps.size ∧ i < (st b).cps.size
    simp only [signs, st, List.length_map, List.size_toArray] at hi ⊢
    omega
  yld := fun i F H x H' h f fh hi y => by
    obtain ⟨T, c, d, rfl, hT, hc, hd, rfl⟩ := y
    have hc' : a[i]? = some c := by simpa [st] using hc
    have hd' : b[i]? = some d := by simpa [st] using hd
    refine ⟨upd F T (.tup [.str ⟨#[c]⟩, .str ⟨#[d]⟩]), .tup [.str [c], .str [d]], growT fh hT, zips_get (by unfold signs; rw [List.getElem?_map, hc']; rfl) (by unfold signs; rw [List.getElem?_map, hd']; rfl), ?_⟩
    unfold Rep
    exact ⟨T, _, rfl, .inl (.inl upd_same), Reps.cons rfl (Reps.cons rfl Reps.nil)⟩
  stop := fun i H h hi => by
    rw [zips_len] at hi
    show (st a).cps.size ≤ i ∨ (st b).cps.size ≤ i
    simp only [signs, st, List.length_map, List.size_toArray] at hi ⊢
    omega
/-- zip of two lists or two texts -/
def zipA (R : M (List D)) : M (List D) := R.bind fun ds => M.lift (match ds with | [.lst xs, .lst ys] => some (zips xs ys) | [.str a, .str b] => some (zips (signs a) (signs b)) | _ => none)
section
variable {X : Cx} {c : Ct} {e : Expr} {p pos : Pos}
theorem j_zipA {R : M (List D)} {e2 : Expr} {tpos : Pos} {elts : List Expr} {kk : Nat} (hk : c.K = X.K) (hg : Gl X "zip") (hm : X.mg "zip" = none) (ha : PA X [e, e2] (tPs c R)) (hs : starEach [e, e2] X.env = (false, eval e X.env) :: starEach [e2] X.env := by rfl) (hpl : (backTo pos (starEach [e2] X.env)).any (·.1) = false := by rfl) :
    PI X (.Tuple elts kk tpos) (.Call (.Name "zip" p) [e, e2] [] pos) (tJ c (zipA R)) := by
  refine (pi_zipB hg hm ha hs hpl).imp fun σ H Q ⟨F, ρ, S, k⟩ => ⟨F, ρ, S, k.step fun ds ρ1 xs F1 H1 S1 r1 f1 h1 a1 => ?_⟩
  obtain ⟨as, e, q⟩ := a1.liftA S1
  rw [← hk]
  split at e
  · cases e
    obtain ⟨x, y, rfl, ⟨a, vs, rfl, h2, k2⟩, ⟨b, us, rfl, h3, k3⟩⟩ := PkRs.two r1
    exact .inl ⟨a, b, vs, us, rfl, .inl h2, .inl h3, q _ F1 H1 (Grow.refl S1.fh) (jok_zip h2 k2 h3 k3)⟩
  · cases e
    obtain ⟨x, y, rfl, k2, k3⟩ := PkRs.two r1
    have k2 : x = .str (st _) := k2
    have k3 : y = .str (st _) := k3
    subst k2; subst k3
    exact .inr ⟨_, _, rfl, q _ F1 H1 (Grow.refl S1.fh) jok_zipS⟩
  · cases e
theorem k_zipA {R : M (List D)} {e2 : Expr} {tpos : Pos} {elts : List Expr} {kk : Nat} (hk : c.K = X.K) (hg : Gl X "zip") (hm : X.mg "zip" = none) (ha : PA X [e, e2] (tFs c R)) (hs : starEach [e, e2] X.env = (false, eval e X.env) :: starEach [e2] X.env := by rfl) (hpl : (backTo pos (starEach [e2] X.env)).any (·.1) = false := by rfl) :
    PI X (.Tuple elts kk tpos) (.Call (.Name "zip" p) [e, e2] [] pos) (tK c (zipA R)) := by
  refine (pi_zipB hg hm ha hs hpl).imp fun σ H Q ⟨F, ρ, S, k⟩ => ⟨F, ρ, S, k.step fun ds ρ1 xs F1 H1 S1 r1 f1 h1 a1 => ?_⟩
  obtain ⟨as, e, q⟩ := a1.liftA S1
  rw [← hk]
  split at e
  · cases e
    obtain ⟨x, r, rfl, k2, k3⟩ := Reps.inv r1
    obtain ⟨y, r', rfl, k4, k5⟩ := k3.inv
    have k5 := k5.inv0
    subst k5
    unfold Rep at k2 k4
    obtain ⟨a, vs, rfl, h2, k2⟩ := k2
    obtain ⟨b, us, rfl, h4, k4⟩ := k4
    exact .inl ⟨a, b, vs, us, rfl, .inl (S1.fh.rd h2), .inl (S1.fh.rd h4), q _ F1 H1 (Grow.refl S1.fh) (jok_zip h2 k2 h4 k4)⟩
  · cases e
    obtain ⟨x, r, rfl, k2, k3⟩ := Reps.inv r1
    obtain ⟨y, r', rfl, k4, k5⟩ := k3.inv
    have k5 := k5.inv0
    subst k5
    have k2 : x = .str (st _) := k2
    have k4 : y = .str (st _) := k4
    subst k2; subst k4
    exact .inr ⟨_, _, rfl, q _ F1 H1 (Grow.refl S1.fh) jok_zipS⟩
  · cases e
end
end PM
namespace PM
open PySem L2 PyProof.Rows
/-! ### x.count(y), x.index(y) of texts -/
def countD : List Nat → List D → Option Slot
  | a, [.str b] => some (false, .int (Txt.count (st a) (st b)))
  | _, _ => none
def indexD : List Nat → List D → Option Slot
  | a, [.str b] => match Builtin.Str.occurrences (st a) (st b) 0 (st a).length 1 with
    | i :: _ => some (false, .int (i : Nat))
    | [] => none
  | _, _ => none
def rCountS : V → List V → Hp → VK → Prop := fun x xs H Q => ∃ a b, x = .str a ∧ xs = [.str b] ∧ Q (.int (Txt.count a b)) H
def rIndexS : V → List V → Hp → VK → Prop := fun x xs H Q => ∃ a b i rest, x = .str a ∧ xs = [.str b] ∧ Builtin.Str.occurrences a b 0 a.length 1 = i :: rest ∧ Q (.int (i : Nat)) H
theorem op_count {X : Cx} : MtR X "str.count" rCountS := mt_count
theorem op_index {X : Cx} : MtR X "str.index" rIndexS := mt_sindex
section
variable {K : Fr}
theorem ok_count : SmOk K countD rCountS := by
  intro F H a ds xs s Q fh r e k
  unfold countD at e
  split at e
  · cases e
    obtain ⟨x, rfl, r1⟩ := r.one
    have r1 : x = .str (st _) := r1
    subst r1
    exact ⟨_, _, rfl, rfl, vnI fh k⟩
  · cases e
theorem ok_index : SmOk K indexD rIndexS := by
  intro F H a ds xs s Q fh r e k
  unfold indexD at e
  split at e
  · split at e
    · cases e
      rename_i ho
      obtain ⟨x, rfl, r1⟩ := r.one
      have r1 : x = .str (st _) := r1
      subst r1
      exact ⟨_, _, _, _, rfl, rfl, ho, vnI fh k⟩
    · cases e
  · cases e
end
end PM
namespace PM
open PySem L2 PyProof.Rows PySem.Spec
/-! ### list of a text -/
theorem vals_of : ∀ {ys : List V} {us : List Value}, us.length = ys.length → (∀ (j : Nat) (u : Value), us[j]? = some u → ∃ y : V, ys[j]? = some y ∧ RelV y u) → Vals ys us
  | [], [], _, _ => .nil
  | y :: ys, u :: us, hl, h => by
    obtain ⟨z, e, r⟩ := h 0 u rfl
    have e : y = z := by simpa using e
    subst e
    exact .cons r (vals_of (by simpa using hl) fun j v hv => by
      obtain ⟨z, e, r⟩ := h (j + 1) v (by simpa using hv)
      exact ⟨z, by simpa using e, r⟩)
  | [], _ :: _, hl, _ => by simp at hl
  | _ :: _, [], hl, _ => by simp at hl
def rListS : List V → Hp → VK → Prop := fun xs H Q => ∃ x : Str, xs = [.str x] ∧ x.cps.size ≤ sizeLine ∧ ∀ l, H l = none → Q (.ref l) (upd H l (.lst (x.cps.toList.map fun c => V.str ⟨#[c]⟩)))
theorem op_listS {X : Cx} (hc : X.calm = true) : CallR X (.type "list") rListS := by
  intro pins s σ H xs us Q I r h
  obtain ⟨x, rfl, hz, q⟩ := h
  cases r with
  | cons ru rt =>
    cases rt
    obtain ⟨t, rfl⟩ := ru
    refine call_list_str (I.ok.hd hc) x t (fun h' tk acc' c' hk e hacc => ?_) hz
    refine ⟨.ref s.heap.objs.size, _, I.laid (t' := tk) hk (Nat.le_refl _) (show ObjOk X.prog X.w _ h' _ (.lst (x.cps.toList.map fun c => V.str ⟨#[c]⟩)) from ⟨by simpa using hz, acc'.toList, c', vals_of (by simp [hacc.1]) fun j u hu => ?_, by simpa using e⟩), rfl, q _ (I.hok.fresh (Nat.le_refl _))⟩
    obtain ⟨c, u, hcx, rfl⟩ := hacc.2 j u (by simpa using hu)
    exact ⟨.str ⟨#[c]⟩, by simp [hcx], ⟨_, rfl⟩⟩
def rListA (K : Fr) : List V → Hp → VK → Prop := fun xs H Q => rList1 K xs H Q ∨ rListS xs H Q
theorem op_listA {X : Cx} (hc : X.calm = true) : CallR X (.type "list") (rListA X.K) := by
  intro pins s σ H xs us Q I r h
  rcases h with h | h
  · exact op_list1 pins s σ H xs us Q I r h
  · exact op_listS hc pins s σ H xs us Q I r h
def listA : List D → Option Slot
  | [.str s] => if s.length ≤ sizeLine then some (true, .lst (signs s)) else none
  | ds => listD ds
theorem signs_reps {K : Fr} {F : Hp} : ∀ s : List Nat, Reps K F (signs s) (s.map fun c => V.str ⟨#[c]⟩)
  | [] => Reps.nil
  | c :: s => Reps.cons rfl (signs_reps s)
theorem ok_listA {K : Fr} : CallOk K listA (rListA K) := by
  intro F H ds xs s Q fh r e k
  unfold listA at e
  split at e
  · split at e
    · cases e
      rename_i hz
      obtain ⟨x, rfl, r1⟩ := r.one
      have r1 : x = .str (st _) := r1
      subst r1
      refine .inr ⟨_, rfl, by simpa [st] using hz, fun p hp => ?_⟩
      have := vnL fh hp (signs_reps (K := K) (F := F) _) k
      simpa [st] using this
    · cases e
  · exact .inl (ok_list F H _ xs s Q fh r e k)
end PM
namespace PM
theorem listA_l {a : List D} : listA [.lst a] = some (true, .lst a) := rfl
theorem listA_t {a : List D} : listA [.tup a] = some (true, .lst a) := rfl
theorem listA_s {s : List Nat} (h : s.length ≤ PySem.sizeLine) : listA [.str s] = some (true, .lst (signs s)) := if_pos h
end PM
namespace PM
open PySem L2 PyProof.Rows StrLaws
/-! ### a sign in a text: how often, and where first -/
theorem occ_count (x : Str) (c lim : Nat) : ∀ (m a free : Nat) (arr : Array Nat), free ≤ a → x.length ≤ a + m → arr.size + m ≤ lim →
    (forIn (List.range' a m) (arr, free) (occBody x ⟨#[c]⟩ x.length lim)).run.fst.size = arr.size + (x.cps.toList.drop a).count c
  | 0, a, free, arr, _, h, _ => by
    have e : x.cps.toList.drop a = [] := List.drop_eq_nil_of_le (by
      have : x.cps.toList.length = x.length := by simp [Str.length]
      omega)
    rw [e]
    rfl
  | m + 1, a, free, arr, hf, h, hl => by
    rw [List.range'_succ, List.forIn_cons]
    unfold occBody
    have k := subAt_one x c a
    have hlen : x.cps.toList.length = x.length := by simp [Str.length]
    by_cases q : x.cps.toList[a]? = some c
    · have k := k.mpr q
      rw [if_pos ⟨⟨⟨by dsimp only; omega, hf⟩, k.1⟩, k.2⟩]
      have ih := occ_count x c lim m (a + 1) (a + (⟨#[c]⟩ : Str).length) (arr.push a) (Nat.le_refl _) (by omega) (by rw [Array.size_push]; omega)
      refine Eq.trans ih ?_
      obtain ⟨ha, hv⟩ := List.getElem?_eq_some_iff.mp q
      rw [List.drop_eq_getElem_cons ha, hv, List.count_cons_self, Array.size_push]
      omega
    · rw [if_neg fun z => q (k.mp ⟨z.1.2, z.2⟩)]
      have ih := occ_count x c lim m (a + 1) free arr (by omega) (by omega) (by omega)
      refine Eq.trans ih ?_
      by_cases ha : a < x.cps.toList.length
      · rw [List.drop_eq_getElem_cons ha, List.count_cons_of_ne]
        intro e
        exact q (by rw [List.getElem?_eq_getElem ha, e])
      · rw [List.drop_eq_nil_of_le (by omega), List.drop_eq_nil_of_le (by omega)]
theorem count_one (s : List Nat) (c : Nat) : Txt.count (st s) (st [c]) = (s.count c : Int) := by
  have e := occ_count (st s) c ((st s).length + 1) ((st s).length + 1 - 0) 0 0 #[] (Nat.le_refl _) (by omega) (by simp)
  unfold Txt.count
  rw [occ_eq]
  have e2 : ((st s).cps.toList.drop 0) = s := by simp [st]
  rw [e2] at e
  simp only [List.size_toArray, List.length_nil, Nat.zero_add] at e
  have e3 : (st [c]) = (⟨#[c]⟩ : Str) := rfl
  rw [e3, Array.length_toList]
  exact congrArg _ e
theorem count_ok (s : List Nat) (c : Nat) : countD s [.str [c]] = some (false, .int (s.count c : Int)) := by
  show some (false, D.int (Txt.count (st s) (st [c]))) = _
  rw [count_one]
end PM
namespace PM
open PySem L2 PyProof.Rows
/-! ### dicts: k in d, d[k] = v, d[k] -/
/-- k in d, k not in d -/
def inKD (neg : Bool) : D → D → Option Slot
  | x, .dic ks _ => match keyD x with
    | some k => some (false, .bl (neg != hasK ks k))
    | none => none
  | _, _ => none
theorem any_zip (k : Key) : ∀ {ks : List Key} {vs : List V}, ks.length = vs.length → ((ks.zip vs).any fun kv => decide (kv.1 = k)) = hasK ks k
  | [], [], _ => rfl
  | [], _ :: _, h => by cases h
  | _ :: _, [], h => by cases h
  | j :: ks, v :: vs, h => by
    have ih := any_zip k (ks := ks) (vs := vs) (by simpa using h)
    unfold hasK at ih ⊢
    rw [List.zip_cons_cons, List.any_cons, List.any_cons, ih]
    by_cases e : j = k
    · rw [decide_eq_true e, decide_eq_true e.symm]
    · rw [decide_eq_false e, decide_eq_false fun z => e z.symm]
theorem keyD_pk {K : Fr} {F H : Hp} {z : D} {y : V} {k : Key} (h : keyD z = some k) (r : PkR K F H z y) : y = kV k := by
  unfold keyD at h
  split at h
  · cases h; exact r
  · cases h; exact r
  · cases h
theorem some_zip {ks : List Key} {vs : List V} {k : Key} (h : ks.length = vs.length) : (valV (ks.zip vs) k).isSome = hasK ks k := by
  rw [← valV_any, any_zip k h]
theorem un1 {n : Nat} (h : n + 64 < cLine) : n + 1 < cLine := by omega
theorem inK_tr {c : Ct} {A1 A2 : M D} {σ : L2.St} {H : Hp} {Q : VK} (h : tE c (bin (inKD false) A1 A2) σ H Q) : tDIn (tP c A1) (tP c A2) σ H Q := by
  obtain ⟨F, ρ, S, k⟩ := h
  refine ⟨F, ρ, S, k.step fun d1 ρ1 x F1 H1 S1 r1 f1 h1 a1 => ⟨F1, ρ1, S1, a1.step fun d2 ρ2 y F2 H2 S2 r2 f2 h2 a2 => ?_⟩⟩
  obtain ⟨s, e, k⟩ := a2.lift S2
  unfold inKD at e
  split at e
  · rename_i ks ds
    split at e
    · rename_i k1 hk
      cases e
      obtain ⟨p, vs, rfl, hH, hl, _⟩ := r2
      have hy := keyD_pk hk (r1.mono f2 h2)
      subst hy
      refine ⟨p, _, rfl, DGet.k hH, ?_⟩
      rw [some_zip hl]
      exact k _ F2 H2 (Grow.refl S2.fh) (by cases hasK ks k1 <;> rfl)
    · cases e
  · cases e
theorem ninK_tr {c : Ct} {A1 A2 : M D} {σ : L2.St} {H : Hp} {Q : VK} (h : tE c (bin (inKD true) A1 A2) σ H Q) : tDNotIn (tP c A1) (tP c A2) σ H Q := by
  obtain ⟨F, ρ, S, k⟩ := h
  refine ⟨F, ρ, S, k.step fun d1 ρ1 x F1 H1 S1 r1 f1 h1 a1 => ⟨F1, ρ1, S1, a1.step fun d2 ρ2 y F2 H2 S2 r2 f2 h2 a2 => ?_⟩⟩
  obtain ⟨s, e, k⟩ := a2.lift S2
  unfold inKD at e
  split at e
  · rename_i ks ds
    split at e
    · rename_i k1 hk
      cases e
      obtain ⟨p, vs, rfl, hH, hl, _⟩ := r2
      have hy := keyD_pk hk (r1.mono f2 h2)
      subst hy
      refine ⟨p, _, rfl, DGet.k hH, ?_⟩
      rw [some_zip hl]
      exact k _ F2 H2 (Grow.refl S2.fh) (by cases hasK ks k1 <;> rfl)
    · cases e
  · cases e
section
variable {X : Cx} {c : Ct} {a b : Expr} {pos : Pos} {A1 A2 : M D}
theorem e_inK (hu : X.A.units + 64 < cLine) (ha : PE X a (tP c A1)) (hb : PE X b (tP c A2)) (hm : behindInMarks .In b = false := by rfl) : PE X (.Compare a [.In] [b] pos) (tE c (bin (inKD false) A1 A2)) :=
  (pe_cmp (pc_din (un1 hu) ha hb) hm).imp fun _ _ _ h => inK_tr h
theorem e_ninK (hu : X.A.units + 64 < cLine) (ha : PE X a (tP c A1)) (hb : PE X b (tP c A2)) (hm : behindInMarks .NotIn b = false := by rfl) : PE X (.Compare a [.NotIn] [b] pos) (tE c (bin (inKD true) A1 A2)) :=
  (pe_cmp (pc_dnotin (un1 hu) ha hb) hm).imp fun _ _ _ h => ninK_tr h
theorem t_inK (hu : X.A.units + 64 < cLine) (ha : PE X a (tP c A1)) (hb : PE X b (tP c A2)) (hm : behindInMarks .In b = false := by rfl) : PT X (.Compare a [.In] [b] pos) (tT c (asB (bin (inKD false) A1 A2))) := by
  refine (pt_cmp (pc_din (un1 hu) ha hb) hm).imp fun σ H Q h => ?_
  obtain ⟨F, ρ, S, k⟩ := asB_tr h
  exact inK_tr ⟨F, ρ, S, k⟩
theorem t_ninK (hu : X.A.units + 64 < cLine) (ha : PE X a (tP c A1)) (hb : PE X b (tP c A2)) (hm : behindInMarks .NotIn b = false := by rfl) : PT X (.Compare a [.NotIn] [b] pos) (tT c (asB (bin (inKD true) A1 A2))) := by
  refine (pt_cmp (pc_dnotin (un1 hu) ha hb) hm).imp fun σ H Q h => ?_
  obtain ⟨F, ρ, S, k⟩ := asB_tr h
  exact ninK_tr ⟨F, ρ, S, k⟩
end
/-- d[k] = v, k a new key -/
def setDS (j : Nat) (A I : M D) : SM := A.thenS fun d ρ => if owned ρ j then (I.thenS fun i ρ2 => match ρ2[j]?, keyD i with
  | some (some (true, .dic ks xs)), some k => if hasK ks k = false ∧ ks.length < sizeLine then .nx (ρ2.set j (some (true, .dic (ks ++ [k]) (xs ++ [d])))) else .bad
  | _, _ => .bad) ρ else .bad
section
variable {X : Cx} {c : Ct} {e : Expr} {pos : Pos}
theorem zip_snoc {α β : Type} (a : α) (b : β) : ∀ {l : List α} {m : List β}, l.length = m.length → (l ++ [a]).zip (m ++ [b]) = l.zip m ++ [(a, b)]
  | [], [], _ => rfl
  | [], _ :: _, h => by cases h
  | _ :: _, [], h => by cases h
  | x :: l, y :: m, h => by
    rw [List.cons_append, List.cons_append, List.zip_cons_cons, List.zip_cons_cons, zip_snoc a b (by simpa using h)]
    rfl
theorem s_setD {j : Nat} {x : Str} {i : Expr} {A I : M D} {px ps : Pos} (hu : X.A.units + 64 < cLine) (he : PE X e (tF c A)) (hx : PE X (.Name x px) (tVar j)) (hi : PE X i (tP c I))
    (hs : swapsWith e (some (.Subscript (.Name x px) i ps)) pos.line X.env = pure false := by rfl) :
    PS X (.Assign [.Subscript (.Name x px) i ps] e pos) (tS c (setDS j A I)) := by
  refine (ps_dput (un1 hu) hx hi he hs).imp fun D σ H ⟨F, ρ, S, k⟩ => ⟨F, ρ, S, k.step fun d ρ1 v F1 H1 S1 r1 f1 h1 a1 => ?_⟩
  by_cases ho : owned ρ1 j = true
  · rw [if_pos ho] at a1
    obtain ⟨d0, e0⟩ := owned_get ho
    obtain ⟨u, e1, p, rfl, _, _, k0⟩ := S1.sl j _ e0
    refine ⟨.ref p, e1, F1, ρ1, S1, a1.step fun i' ρ2 iv F2 H2 S2 r2 f2 h2 a2 => ?_⟩
    split at a2
    · rename_i ks xs k e2 hk
      split at a2
      · rename_i hz
        obtain ⟨u', e3, p', ep, _, _, k2⟩ := S2.sl j _ e2
        rw [e1] at e3; cases e3; cases ep
        obtain ⟨us, hu, hl, ru⟩ := k2
        have hy := keyD_pk hk r2
        subst hy
        have hlz : (ks.zip us).length < sizeLine := by
          rw [List.length_zip, ← hl, Nat.min_self]
          exact hz.2
        have hn : valV (ks.zip us) k = none := by
          have := some_zip (k := k) hl
          rw [hz.1] at this
          cases q : valV (ks.zip us) k with
          | none => rfl
          | some v => rw [q] at this; cases this
        refine ⟨p, _, rfl, DPut.k hu hlz, ?_⟩
        rw [putK_new v hn, ← zip_snoc k v hl]
        exact a2 σ F2 _ (S2.upd e2 e1 ⟨us ++ [v], upd_same, by rw [List.length_append, List.length_append, hl]; rfl, ru.append (Reps.cons (Rep.mono f2 _ _ r1) Reps.nil)⟩)
      · exact a2.elim
    · exact a2.elim
  · rw [if_neg ho] at a1
    exact a1.elim
end
/-! ### int of a text -/
def rIntS : List V → Hp → VK → Prop := fun xs H Q => ∃ a n, xs = [.str a] ∧ PySem.intText? a = some n ∧ a.length ≤ 640 ∧ Q (.int n) H
def rIntA : List V → Hp → VK → Prop := fun xs H Q => rInt1 xs H Q ∨ rIntS xs H Q
theorem op_intA {X : Cx} : CallR X (.type "int") rIntA := by
  intro pins s σ H xs us Q I r h
  rcases h with h | h
  · exact op_int1 pins s σ H xs us Q I r h
  · exact call_int_str pins s σ H xs us Q I r h
def intA : List D → Option Slot
  | [.int i] => some (false, .int i)
  | [.bl b] => some (false, .int (if b then 1 else 0))
  | [.str s] => match PySem.intText? (st s) with
    | some n => if s.length ≤ 640 then some (false, .int n) else none
    | none => none
  | _ => none
theorem ok_intA {K : Fr} : CallOk K intA rIntA := by
  intro F H ds xs s Q fh r e k
  unfold intA at e
  split at e
  · exact .inl (ok_int F H _ xs s Q fh r e k)
  · exact .inl (ok_int F H _ xs s Q fh r e k)
  · split at e
    · rename_i n hn
      split at e
      · rename_i hl
        cases e
        obtain ⟨x, rfl, r1⟩ := r.one
        have r1 : x = .str (st _) := r1
        subst r1
        exact .inr ⟨_, n, rfl, hn, by simpa [st, Str.length] using hl, vnI fh k⟩
      · cases e
    · cases e
  · cases e
theorem intA_i {i : Int} : intA [.int i] = some (false, .int i) := rfl
theorem intA_fig (d : Nat) (h : d < 10) : intA [.str [48 + d]] = some (false, .int d) := by
  have e : PySem.intText? (st [48 + d]) = some ((NumText.digitsVal [48 + d] : Nat) : Int) := SX.int_S (a := [48 + d]) (by
    have : d = 0 ∨ d = 1 ∨ d = 2 ∨ d = 3 ∨ d = 4 ∨ d = 5 ∨ d = 6 ∨ d = 7 ∨ d = 8 ∨ d = 9 := by omega
    rcases this with rfl | rfl | rfl | rfl | rfl | rfl | rfl | rfl | rfl | rfl <;> rfl) (by simp) (by simp)
  have v : NumText.digitsVal [48 + d] = d := by
    have : d = 0 ∨ d = 1 ∨ d = 2 ∨ d = 3 ∨ d = 4 ∨ d = 5 ∨ d = 6 ∨ d = 7 ∨ d = 8 ∨ d = 9 := by omega
    rcases this with rfl | rfl | rfl | rfl | rfl | rfl | rfl | rfl | rfl | rfl <;> rfl
  rw [v] at e
  unfold intA
  dsimp only
  rw [e]
  rfl
end PM
namespace PM
open PySem L2 PyProof.Rows
/-! ### x.upper() of a text of plain signs -/
def upperD : D → Option Slot
  | .str s => if s.all (· < 128) = true ∧ s.length ≤ 5592405 then some (false, .str (s.map up1)) else none
  | _ => none
theorem e_upper {X : Cx} {c : Ct} {o : Expr} {apos pos : Pos} {A : M D} (ha : PE X o (tP c A)) (hbase : attributeBase o "upper" X.env (eval o X.env) = eval o X.env := by rfl) (hline : (apos.endLine == pos.line) = true := by rfl) :
    PE X (.Call (.Attribute o "upper" apos) [] [] pos) (tE c (una upperD A)) := by
  refine (pe_upper ha hbase hline).imp fun σ H Q ⟨F, ρ, S, k⟩ => ⟨F, ρ, S, k.step fun d ρ1 x F1 H1 S1 r1 f1 h1 a1 => ?_⟩
  obtain ⟨s, e, k⟩ := a1.lift S1
  unfold upperD at e
  split at e
  · rename_i t
    split at e
    · rename_i h
      cases e
      have r1 : x = .str (st _) := r1
      subst r1
      refine ⟨⟨_, rfl⟩, _, rfl, rfl, by simpa [st, Str.length] using h.2, ?_⟩
      have u : Txt.upper (st t) = st (t.map up1) := SX.upper_S h.1
      rw [u]
      exact k _ F1 H1 (Grow.refl S1.fh) rfl
    · cases e
  · cases e
end PM
namespace PM
open PySem L2 PyProof.Rows
/-! ### x.split(y) -/
def splitD : List Nat → List D → Option Slot
  | a, [.str b] => if b ≠ [] ∧ b.all (· < 256) = true ∧ a.length ≤ 5000000 then some (true, .lst ((TL.spl b 0 [] a).map D.str)) else none
  | _, _ => none
def rSplitS : V → List V → Hp → VK → Prop := fun x xs H Q => ∃ a b, x = .str a ∧ xs = [.str b] ∧ (b.length == 0) = false ∧ a.length + 2 ≤ sizeLine ∧ L2.rNewStrs (Txt.split a b) H Q
theorem op_split {X : Cx} : MtR X "str.split" rSplitS := mt_split
theorem strs_reps {K : Fr} {F : Hp} : ∀ l : List (List Nat), Reps K F (l.map D.str) (l.map fun s => V.str (st s))
  | [] => Reps.nil
  | s :: l => Reps.cons rfl (strs_reps l)
theorem ok_split {K : Fr} : SmOk K splitD rSplitS := by
  intro F H a ds xs s Q fh r e k
  unfold splitD at e
  split at e
  · split at e
    · rename_i h
      cases e
      obtain ⟨x, rfl, r1⟩ := r.one
      have r1 : x = .str (st _) := r1
      subst r1
      refine ⟨_, _, rfl, rfl, ?_, ?_, fun p hp => ?_⟩
      · cases hb : (‹List Nat› : List Nat) with
        | nil => exact absurd hb (by simpa using h.1)
        | cons c r => simp [st, Str.length]
      · have : (5000002 : Nat) ≤ sizeLine := by decide
        have h3 := h.2.2
        simp only [st, Str.length, List.size_toArray]
        omega
      · rw [show Txt.split (st a) (st _) = _ from SX.split_S h.1 h.2.1]
        have := vnL fh hp (strs_reps (K := K) (F := F) _) k
        rw [List.map_map]
        exact this
    · cases e
  · cases e
/-! ### None in a list of tuples and None -/
def nonT : D → Bool
  | .non => true
  | .tup _ => true
  | _ => false
def isNon : D → Bool
  | .non => true
  | _ => false
def nInD : D → D → Option Slot
  | .non, .lst ds => if ds.all nonT = true then some (false, .bl (ds.any isNon)) else none
  | _, _ => none
def vNon : V → Bool
  | .non => true
  | _ => false
def rInN (K : PySem.W.Frag) : R2 := fun x y H Q => ∃ p xs, x = .non ∧ y = .ref p ∧ SqL K H p xs ∧ (∀ v ∈ xs, v = .non ∨ ∃ q ys, v = .ref q ∧ SqT K H q ys) ∧ Q (.bl (xs.any vNon)) H
def uNon : Value → Bool
  | .none => true
  | _ => false
theorem any_non {xs : List V} {us : List Value} (r : Vals xs us) : (∀ v ∈ xs, v = .non ∨ ∃ q, v = .ref q) → us.any uNon = xs.any vNon := by
  induction r with
  | nil => exact fun _ => rfl
  | @cons x u xs us hx t ih =>
    intro h
    rw [List.any_cons, List.any_cons, ih fun v hv => h v (List.mem_cons_of_mem _ hv)]
    rcases h x List.mem_cons_self with rfl | ⟨q, rfl⟩
    · cases hx; rfl
    · cases hx; rfl
theorem op_inN {X : Cx} (hu : X.A.units + 64 < cLine) : OpR X (compareOp .In) (rInN X.K) := by
  intro pins s σ H x y v u Q I rx ry h
  obtain ⟨p, xs, rfl, rfl, hq, hx, q⟩ := h
  cases rx
  cases ry
  obtain ⟨its, r, pl, hz⟩ := I.list hq
  refine SeqAt.in_listAt uNon pl.isList (fun w hw => ?_) ⟨.bl _, H, I, rfl, ?_⟩
  · have key : ∀ {xs : List V} {us : List Value}, Vals xs us → (∀ v ∈ xs, v = .non ∨ ∃ q ys, v = .ref q ∧ SqT X.K H q ys) → ∀ w ∈ us, SeqAt.EqAt X.A.in1 s w .none (uNon w) := by
      intro xs us r
      induction r with
      | nil => exact fun _ w hw => by cases hw
      | @cons x u xs us hx t ih =>
        intro h w hw
        rcases List.mem_cons.mp hw with rfl | hw
        · rcases h x List.mem_cons_self with rfl | ⟨q, ys, rfl, hs⟩
          · cases hx
            exact SeqAt.EqAt.same _
          · cases hx
            obtain ⟨its2, r2, pl2, hz2⟩ := I.tuple hs
            exact SeqAt.EqAt.tuple_none pl2 (by show X.A.units + 1 < cLine; omega)
        · exact ih (fun v hv => h v (List.mem_cons_of_mem _ hv)) w hw
    exact key r hx w (by simpa using hw)
  · rw [show its.toArray.any uNon = its.any uNon by simp, any_non r fun v hv => (hx v hv).imp_right fun ⟨q, _, e, _⟩ => ⟨q, e⟩]
    exact q
theorem ok_inN {K : Fr} : OpOk K nInD (rInN K) := by
  intro F H d1 d2 x y s Q fh r1 r2 e k
  unfold nInD at e
  split at e
  · rename_i ds
    split at e
    · rename_i h
      cases e
      obtain ⟨a, vs, rfl, hs, k1⟩ := r2
      have r1 : x = .non := r1
      have key : ∀ {ds : List D} {vs : List V}, Reps K F ds vs → ds.all nonT = true → (∀ v ∈ vs, v = .non ∨ ∃ q ys, v = .ref q ∧ SqT K H q ys) ∧ vs.any vNon = ds.any isNon := by
        intro ds
        induction ds with
        | nil =>
          intro vs r _
          rw [r.inv0]
          exact ⟨fun v hv => (List.not_mem_nil hv).elim, rfl⟩
        | cons d ds ih =>
          intro vs r h
          obtain ⟨v, r', rfl, k1, k2⟩ := r.inv
          rw [List.all_cons] at h
          obtain ⟨h1, h2⟩ := Bool.and_eq_true_iff.mp h
          obtain ⟨i1, i2⟩ := ih k2 h2
          cases d with
          | non =>
            have k1 : v = .non := k1
            subst k1
            refine ⟨fun w hw => (List.mem_cons.mp hw).elim .inl (i1 w), ?_⟩
            rw [List.any_cons, List.any_cons, i2]
            rfl
          | tup ys =>
            unfold Rep at k1
            obtain ⟨q, us, rfl, hs2, _⟩ := k1
            refine ⟨fun w hw => (List.mem_cons.mp hw).elim (fun z => .inr ⟨q, us, z, fh.sqT hs2⟩) (i1 w), ?_⟩
            rw [List.any_cons, List.any_cons, i2]
            rfl
          | _ => cases h1
      obtain ⟨i1, i2⟩ := key k1 h
      refine ⟨a, vs, r1, rfl, .inl hs, i1, ?_⟩
      rw [i2]
      exact k _ F H (Grow.refl fh) rfl
    · cases e
  · cases e
/-! ### {"k": "v", ..} of texts, d[k] -/
def trC : List (List Nat × List Nat) → List (TE × TE)
  | [] => []
  | (k, v) :: r => (tC (.str (st k)), tC (.str (st v))) :: trC r
theorem pairs_C {σ : L2.St} {H : Hp} : ∀ (l : List (List Nat × List Nat)) {Q : List (V × V) → Hp → Prop}, Q (l.map fun q => (V.str (st q.1), V.str (st q.2))) H → tPairs (trC l) σ H Q
  | [], _, h => h
  | q :: l, Q, h => by
    show tPairs (trC l) σ H fun ps H3 => Q ((V.str (st q.1), V.str (st q.2)) :: ps) H3
    exact pairs_C l h
def keyT (l : List (List Nat × List Nat)) : List Key := l.map fun q => (.inr (st q.1) : Key)
theorem merge_new : ∀ (more kvs : List (Key × V)), ((kvs ++ more).map (·.1)).Nodup → mergeK kvs more = kvs ++ more
  | [], kvs, _ => by rw [List.append_nil]; rfl
  | q :: more, kvs, h => by
    have hn : valV kvs q.1 = none := by
      cases e : valV kvs q.1 with
      | none => rfl
      | some v =>
        exfalso
        have : (kvs.any fun kv => decide (kv.1 = q.1)) = true := by rw [valV_any, e]; rfl
        obtain ⟨x, hx, hd⟩ := List.any_eq_true.mp this
        rw [List.map_append] at h
        have := (List.nodup_append.mp h).2.2 x.1 (List.mem_map.mpr ⟨x, hx, rfl⟩) q.1 (List.mem_map.mpr ⟨q, List.mem_cons_self, rfl⟩)
        exact this (of_decide_eq_true hd)
    show mergeK (putK kvs q.1 q.2) more = _
    rw [putK_new q.2 hn, merge_new more (kvs ++ [q]) (by rwa [List.append_assoc]), List.append_assoc]
    rfl
theorem zip_T : ∀ l : List (List Nat × List Nat), (keyT l).zip (l.map fun q => V.str (st q.2)) = l.map fun q => ((.inr (st q.1) : Key), V.str (st q.2))
  | [] => rfl
  | q :: l => by
    show (_, _) :: (keyT l).zip (l.map fun q => V.str (st q.2)) = _
    rw [zip_T l]
    rfl
theorem e_dictT {X : Cx} {c : Ct} {pos : Pos} {keys : List (Option Expr)} {values : List Expr} (l : List (List Nat × List Nat)) (h : PPs X pos keys values (trC l)) (nd : (l.map (·.1)).Nodup) (hl : l.length ≤ 15)
    (hall : keys.all (·.isSome) = true := by rfl) (hle : keys.length = values.length := by rfl) (h0 : keys ≠ [] := by simp) (h15 : keys.length ≤ 15 := by decide) : PE X (.Dict keys values pos) (tE c (PM.ret (true, .dic (keyT l) (l.map fun q => D.str q.2)))) := by
  refine (pe_disp h hall hle h0 h15).imp fun σ H Q ⟨F, ρ, S, k⟩ => fun a ha => ?_
  refine pairs_C l ⟨upd_same, l.map fun q => ((.inr (st q.1) : Key), V.str (st q.2)), by rw [List.map_map]; rfl, by rw [List.length_map]; exact hl, ?_⟩
  have hk : ((l.map fun q => ((.inr (st q.1) : Key), V.str (st q.2))).map (·.1)).Nodup := by
    rw [List.map_map]
    have : (l.map (·.1)).Pairwise (· ≠ ·) := nd
    rw [List.pairwise_map] at this
    refine List.pairwise_map.mpr (this.imp fun {p q} hne e => hne ?_)
    have e : (Sum.inr (st p.1) : Key) = .inr (st q.1) := e
    have e := Sum.inr.inj e
    have : (st p.1).cps = (st q.1).cps := congrArg Str.cps e
    simpa [st] using this
  have hu : upd (upd H a (.dK [])) a (.dK (mergeK [] (l.map fun q => ((.inr (st q.1) : Key), V.str (st q.2))))) = upd H a (.dK ((keyT l).zip (l.map fun q => V.str (st q.2)))) := by
    rw [merge_new _ [] (by simpa using hk), List.nil_append, zip_T]
    funext b
    unfold upd
    by_cases hb : b = a
    · simp [hb]
    · simp [hb]
  rw [hu]
  refine k (.ref a) F _ (S.grow (F' := F) (H' := upd H a (.dK ((keyT l).zip (l.map fun q => V.str (st q.2))))) ⟨Sub.refl _, Sub.upd ha, S.fh.trans (Sub.upd ha), fun _ _ e => .inl e⟩) (Sub.refl _) (Sub.upd ha) ?_
  refine VN.vr (c := c) (H := H) (F := F) ⟨a, rfl, ha, S.fh.none ha, l.map fun q => V.str (st q.2), upd_same, by unfold keyT; rw [List.length_map, List.length_map], ?_⟩ S
  have := strs_reps (K := c.K) (F := F) (l.map (·.2))
  rw [List.map_map, List.map_map] at this
  exact this
theorem pps_one {X : Cx} {pos p1 p2 : Pos} {k v : List Nat} {x y : Str} {j1 j2 : Nat} {ks : List (Option Expr)} {vs : List Expr} {l : List (List Nat × List Nat)} (hx : x = st k) (hy : y = st v) (r : PPs X pos ks vs (trC l)) :
    PPs X pos (some (.Constant (.str x) j1 p1) :: ks) (.Constant (.str y) j2 p2 :: vs) (trC ((k, v) :: l)) := by
  subst hx hy
  exact pps_cons pe_str pe_str r
def lookK : List Key → List D → Key → Option D
  | j :: ks, d :: ds, k => if j = k then some d else lookK ks ds k
  | _, _, _ => none
def getKD : D → D → Option Slot
  | .dic ks ds, x => match keyD x with
    | some k => (lookK ks ds k).map fun d => (false, d)
    | none => none
  | _, _ => none
theorem look_val {K : Fr} {F : Hp} {k : Key} : ∀ {ks : List Key} {ds : List D} {vs : List V} {d : D}, ks.length = vs.length → Reps K F ds vs → lookK ks ds k = some d → ∃ v, valV (ks.zip vs) k = some v ∧ Rep K F d v
  | [], ds, vs, d, _, _, e => by unfold lookK at e; cases e
  | j :: ks, [], vs, d, _, _, e => by unfold lookK at e; cases e
  | j :: ks, x :: ds, vs, d, h, r, e => by
    obtain ⟨v, r', rfl, k1, k2⟩ := r.inv
    unfold lookK at e
    by_cases hj : j = k
    · rw [if_pos hj] at e
      cases e
      exact ⟨v, valV_pos hj, k1⟩
    · rw [if_neg hj] at e
      obtain ⟨v', e1, e2⟩ := look_val (by simpa using h) k2 e
      exact ⟨v', (valV_neg hj).trans e1, e2⟩
theorem e_getK {X : Cx} {c : Ct} {o i : Expr} {pos : Pos} {A1 A2 : M D} (hu : X.A.units + 64 < cLine) (ho : PE X o (tP c A1)) (hi : PE X i (tP c A2)) (hs : NoSl i) : PE X (.Subscript o i pos) (tE c (bin getKD A1 A2)) := by
  refine (pe_dget (un1 hu) ho hi hs).imp fun σ H Q ⟨F, ρ, S, k⟩ => ⟨F, ρ, S, k.step fun d1 ρ1 x F1 H1 S1 r1 f1 h1 a1 => ⟨F1, ρ1, S1, a1.step fun d2 ρ2 y F2 H2 S2 r2 f2 h2 a2 => ?_⟩⟩
  obtain ⟨s, e, k⟩ := a2.lift S2
  have r1 := r1.mono f2 h2
  unfold getKD at e
  split at e
  · rename_i ks ds _
    split at e
    · rename_i k1 hk
      obtain ⟨p, vs, rfl, hH, hl, rr⟩ := r1
      have hy := keyD_pk hk r2
      subst hy
      cases ql : lookK ks ds k1 with
      | none => rw [ql] at e; cases e
      | some d =>
        rw [ql] at e
        cases e
        obtain ⟨v, e1, e2⟩ := look_val hl rr ql
        exact ⟨p, v, rfl, e1 ▸ DGet.k hH, k v F2 H2 (Grow.refl S2.fh) e2⟩
    · cases e
  · cases e
end PM
namespace PM
open PySem L2 PyProof.Rows
/-! ### a name's value, handed on with what it owns (the name is not read again) -/
def mov (i : Nat) : M Slot := fun ρ => match ρ[i]? with
  | some (some s) => .ok s (wipeE ρ [i])
  | _ => .bad
theorem e_mov {X : Cx} {c : Ct} {i : Nat} {x : Str} {pos : Pos} (h : PE X (.Name x pos) (tVar i)) : PE X (.Name x pos) (tE c (mov i)) := by
  refine h.imp fun σ H Q ⟨F, ρ, S, a⟩ => ?_
  unfold mov at a
  split at a
  · rename_i s e
    obtain ⟨v, h1, h2⟩ := S.sl i _ e
    refine ⟨v, h1, a v F H (S.dim [i]) (Sub.refl _) (Sub.refl _) ⟨h2, fun z j d' e1 e2 => ?_⟩⟩
    obtain ⟨o, d⟩ := s
    have z : o = true := z
    subst z
    obtain ⟨p, rfl, _, _, _⟩ := h2
    have hi : i < ρ.length := (List.getElem?_eq_some_iff.mp e).1
    by_cases q : i = j
    · subst q
      have : (wipeE ρ [i])[i]? = some none := by
        show (ρ.set i none)[i]? = _
        rw [List.getElem?_set_self hi]
      rw [this] at e1
      cases e1
    · exact q (S.sep i j p d d' e (wipeE_sub e1) h1 e2)
  · exact a.elim
end PM
namespace PM
open PySem PySem.Spec L2 PyProof.Rows
/-! ### own calls within an except suite: defs that let nothing out -/
def noX (f : FM) : FM := fun ds => match f ds with
  | .ok s => .ok s
  | _ => .bad
def CXF : CXT := fun _ _ _ _ _ _ => False
def noE : XK := fun _ _ _ => False
theorem noX_ok {f : FM} {ds : List D} {s : Slot} (h : f ds = .ok s) : noX f ds = .ok s := by unfold noX; rw [h]
theorem spF_noX {K : Fr} {mg : Str → Option Value} {f : FM} {n : Nat} {vs : List V} {H : Hp} {Q : VK} {E E' : XK} (h : spF K mg (noX f) n vs H Q E) : spF K mg (noX f) n vs H Q E' := by
  obtain ⟨hl, F, ds, fh, r, k⟩ := h
  refine ⟨hl, F, ds, fh, r, ?_⟩
  have e : ∀ z, noX f ds ≠ .exc z := fun z q => by
    unfold noX at q
    split at q <;> cases q
  revert k
  cases q : noX f ds with
  | ok s => exact id
  | exc z => exact absurd q (e z)
  | bad => exact id
structure FnC (P : Program) (w : World) (K : Fr) (mg : Str → Option Value) (base : Heap) (k : Nat) (f : Addr) (fd : FuncData) (ps : List Str) (g : FM) (n : Nat) : Prop where
  num : ps.length = n
  run : ∀ (A : Around) (outer : List PySem.Env) (s : Shared) (H : Hp) (args : Args) (us : List Value) (vs : List V) (Q : VK) (p : Addr × Obj), L2H.RoomH k A → L2H.PinOk outer H s p → Env0 P w K mg base A outer s H →
    BindsTo s fd args (ps.zip us) → Vals vs us → spF K mg (noX g) n vs H Q noE → codeAny (model P w) A (.call (.ref f) args) (CR CXF outer P w H s Q noE) s
section
variable {P : Program} {w : World} {K : Fr} {mg : Str → Option Value} {base : Heap}
abbrev cxC (P : Program) (w : World) (K : Fr) (mg : Str → Option Value) (base : Heap) (N : List Str) (qual : Str) (sc : Scope) (f : Addr) (cdv : Value) (A : Around) (outer : List PySem.Env) (s0 : Shared) (H : Hp) (p : Addr × Obj) : Cx :=
  L2H.cxH CXF P w K mg base N qual sc f cdv A outer s0 H noE p
theorem ok_funC {x qual : Str} {st : Stmt} {f : Addr} {fd : FuncData} {N ps : List Str} {k : Nat} {S : SM} (F : Fun K x qual st f fd) (Sc : FnScope N ps (defScope st)) (hl : ps.length ≤ N.length)
    (hbody : ∀ (cdv : Value) (A : Around) (outer : List PySem.Env) (s0 : Shared) (H : Hp) (p : Addr × Obj), L2H.RoomH k (A.deeper (envOfC qual (defScope st) s0.heap.objs.size f cdv)) → ∀ B F0,
      PSs (cxC P w K mg base N qual (defScope st) f cdv A outer s0 H p) (defBody st) (tS ⟨K, mg, B, F0, fun _ _ _ _ => False, none⟩ S)) :
    FnC P w K mg base (k + 1) f fd ps (runF N.length ps.length S) ps.length := by
  obtain ⟨oc, od, kV, doc, pm, an, cdv, ct, osl, rfl, lk, hcd⟩ := F.ex
  refine ⟨rfl, fun A outer s0 H args us vs Q p hr hp en hb r sp => ?_⟩
  obtain ⟨hvl, F0, ds, fh, rr, h⟩ := sp
  have inH : K.In s0.heap := en.mod.kin.keeps fun b o e => (en.bs b o e).1
  have nl : s0.heap.NoLimit := en.mod.nolimit.keeps fun b o e => (en.bs b o e).1
  have kinds : ∀ y ∈ ps.zip us, (defScope st).names.lookup y.1 = some .local ∨ ((defScope st).names.lookup y.1 = some .cell ∧ ((cellsFrom (s0.heap.objs.size + 1) (defScope st).names []).lookup y.1).isSome = true) := by
    rintro ⟨n, v⟩ hy
    exact (Sc.par n (List.of_mem_zip hy).1).imp_right fun q => ⟨q, PySem.W.cellsFrom_some _ _ _ (.inl q)⟩
  refine codeAny_call_function hr.depth (inH _ _ lk) rfl Sc.co Sc.gen rfl (PySem.W.codeRec_of inH hcd) (hb _ _ _ _ (wpAny_newFunctionEnv_cells Sc.kind kinds fun env he s1 x => ?_))
  subst he
  refine ⟨nl.keeps x.toInCall.keep, codeAny_func ?_⟩
  have I := L2H.inv_startH (CX := CXF) (E := noE) (qual := qual) (cd := cdv) Sc hp en hvl r x
  have start := (hbody cdv A outer s0 H p (hr.deeper _) H F0).run [] s1 (L2.start N vs) H { nx := fun _ H' => Q .non H', rt := Q } I ⟨F0, _, start_ok fh rr (by rw [hvl]; exact hl), by
    have hdl : ds.length = ps.length := by rw [rr.length, hvl]
    unfold noX runF at h
    rw [if_pos hdl] at h
    have gr : ∀ {F' H' : Hp} {σ' : L2.St} {ρ' : Env}, SR none K H F0 F' H' σ' ρ' → Grow F0 H F' H' := fun {F' H' σ' ρ'} S' => ⟨S'.f0, S'.bh, S'.fh, S'.new⟩
    cases q : S (initE N.length ds) with
    | nx ρ' => rw [q] at h; exact fun σ' F' H' S' => h .non F' H' (gr S') rfl
    | rt s =>
      rw [q] at h
      intro v σ' ρ' F' H' S' r'
      refine h v F' H' (gr S') ?_
      obtain ⟨o, d⟩ := s
      cases o with
      | false => exact r'
      | true =>
        obtain ⟨a, rfl, fa, ba, k⟩ := r'
        exact ⟨a, rfl, ba, fa, k⟩
    | exc z ρ' => rw [q] at h; exact h.elim
    | bk ρ' => rw [q] at h; exact h.elim
    | ct ρ' => rw [q] at h; exact h.elim
    | bad => rw [q] at h; exact h.elim⟩
  have done : ∀ {σ' : L2.St} {H' : Hp} {v : V} {u : Value} {s' : Shared}, Inv (cxC P w K mg base N qual (defScope st) f cdv A outer s0 H p) [] σ' H' s' → RelV v u → Q v H' → CE outer P w H s0 Q u s' := fun {σ' H' v u s'} J rv q => ⟨v, H', J.os, J.bare, J.base, J.hok, rv, q⟩
  refine wpAny_mono start (fun fl s' hs => ?_) fun e s' hs => hs
  cases fl with
  | ret u => obtain ⟨v, σ', H', J, rv, q⟩ := hs; exact done J rv q
  | next => obtain ⟨σ', H', J, q⟩ := hs; exact done (v := V.non) (u := Value.none) J rfl q
  | brk => obtain ⟨_, _, _, q⟩ := hs; exact q.elim
  | cont => obtain ⟨_, _, _, q⟩ := hs; exact q.elim
theorem fn_badC {k n : Nat} {f : Addr} {fd : FuncData} {ps : List Str} (h : ps.length = n) : FnC P w K mg base k f fd ps (fun _ => .bad) n :=
  ⟨h, fun _ _ _ _ _ _ _ _ _ _ _ _ _ _ ⟨_, _, _, _, _, z⟩ => z.elim⟩
end
theorem roomH_units {k : Nat} {A : Around} (r : L2H.RoomH k A) : A.units + 64 < cLine := by have := r.un; omega
theorem roomC {k : Nat} {A : Around} (r : Room k A) (h : Option Value) : L2H.RoomH k (A.mark h) := ⟨r.dp, r.un⟩
section
variable {X : Cx} {c : Ct} {e : Expr} {es : List Expr} {pos p : Pos} {k n : Nat} {fa : Addr} {fd : FuncData} {ps : List Str} {f : FM} {R : AM} {x : Str} {p0 : Addr × Obj}
theorem e_callC (G : FnC X.prog X.w X.K X.mg X.base k fa fd ps f n) (hr : L2H.RoomH k X.A) (hp : p0 ∈ X.pn) (hK : c.K = X.K) (hM : c.mg = X.mg) (hn : ∀ ds, f ds ≠ .bad → ds.length = n) (hg : Gl X x) (hm : X.mg x = some (.ref fa)) (hkp : PySem.W.keepIn X.K (.ref fa) = true) (hb : Binds X.K fd ps [])
    (ha : PA X (e :: es) (tA c R)) (hdb : (x == ("__debug__" : Str)) = false := by decide) (he : starEach (e :: es) X.env = (false, eval e X.env) :: starEach es X.env := by rfl) (hpl : (backTo pos (starEach es X.env)).any (·.1) = false := by rfl) :
    PE X (.Call (.Name x p) (e :: es) [] pos) (tE c (callE (noX f) R)) := by
  have hn2 : ∀ ds, noX f ds ≠ .bad → ds.length = n := fun ds h => hn ds fun z => h (by unfold noX; rw [z])
  refine ⟨fun pins s σ H Q I h => wpAny_Call_Name_kw (ld_glob I hg hm ?_ hdb)⟩
  have h := call_tr (X := X) hK hM hn2 h
  refine PySem.W.callWith_K (h₀ := X.base) I.ok.mod.kin hkp (thn (ha.run pos pins s σ H _ I h) ?_) he hpl
  rintro us s1 ⟨vs, H1, I1, r, q⟩
  refine ⟨I1.kIn, wpAny_call (codeAny_mono (G.run X.A X.stack s1 H1 ⟨us, []⟩ us vs Q p0 hr ?_ I1.env0 ?_ r (spF_noX (by simpa using q))) fun z s' hz => ?_)⟩
  · obtain ⟨p1, p2, p3, p4, p5⟩ := I1.pin p0 (List.mem_append_left _ hp)
    exact ⟨p1, p2, fun hm => (List.mem_cons.mp (I1.stkSub p0.1 hm)).elim p3 p4, p5⟩
  · have q : spF X.K X.mg (noX f) n (vs ++ []) H1 Q _ := q
    have hl := q.1
    rw [List.append_nil] at hl
    have b := hb s1 us I1.kIn (by rw [List.append_nil, ← r.length, hl, G.num])
    rwa [List.append_nil] at b
  · cases z with
    | error u => exact hz.elim
    | ok fl =>
      cases fl with
      | ret u => exact I1.after hz
      | _ => exact hz.elim
end
end PM
theorem _root_.L2H.RoomH.units {k : Nat} {A : PySem.Around} (r : L2H.RoomH k A) : A.units + 64 < PySem.cLine := by have := r.un; omega
namespace PM
open PySem L2 PySem.Spec PyProof.Rows PySem.Calls
/-! ### zip of a tuple and a list -/
def ItzTL (K : PySem.W.Frag) (a b : Addr) : It :=
  ⟨fun i H => ∃ (xs ys : List V) (x y : V), SqT K H a xs ∧ SqL K H b ys ∧ xs[i]? = some x ∧ ys[i]? = some y,
    fun i H v H' => ∃ T x y, v = .ref T ∧ H T = none ∧ H' = upd H T (.tup [x, y]) ∧ (∀ xs, SqT K H a xs → xs[i]? = some x) ∧ ∀ ys, SqL K H b ys → ys[i]? = some y,
    fun i H => ∃ xs ys : List V, SqT K H a xs ∧ SqL K H b ys ∧ (xs.length ≤ i ∨ ys.length ≤ i)⟩
theorem drawT {prog : Program} {w : World} {A : Around} (hh : A.handled = none) {h : Heap} {it a : Addr} {i : Nat} {its : Array Value} (hit : h.IsTupleIter it a i) (p : h.IsTuple a its) (hne : a ≠ it) :
    ∃ (n : Nat) (R : Nat → Value → Prop) (Z : Nat → Heap → Prop), Draws prog w A it [it, a] n R Z ∧ Z i h ∧ i ≤ n ∧ (its.size ≤ i → i = n) := by
  by_cases hl : i < its.size
  · exact ⟨_, _, _, Draws.tuple hh it a hne its, ⟨hit, p⟩, Nat.le_of_lt hl, fun z => absurd hl (Nat.not_lt.mpr z)⟩
  · refine ⟨i, fun _ _ => False, fun j h => h.IsTupleIter it a i ∧ h.IsTuple a its ∧ j = i, ?_, ⟨hit, p, rfl⟩, Nat.le_refl _, fun _ => rfl⟩
    exact { live := fun _ _ q => let ⟨o, ho, _⟩ := q.1; ⟨o, ho⟩
            frame := fun _ _ _ q hk => ⟨q.1.at fun o e => hk it (by simp) o e, q.2.1.at fun o e => hk a (by simp) o e, q.2.2⟩
            item := fun j s Q E hj q _ => absurd q.2.2 (Nat.ne_of_lt hj)
            done := fun s Q E q hE => wpAny_nextOf_tuple_end hh q.1 q.2.1 (by simp; omega) hE }
theorem drawL {prog : Program} {w : World} {A : Around} (hh : A.handled = none) {h : Heap} {it a : Addr} {i : Nat} {its : Array Value} (hit : h.IsListIter it a i) (p : h.IsList a its) (hne : a ≠ it) :
    ∃ (n : Nat) (R : Nat → Value → Prop) (Z : Nat → Heap → Prop), Draws prog w A it [it, a] n R Z ∧ Z i h ∧ i ≤ n ∧ (its.size ≤ i → i = n) := by
  by_cases hl : i < its.size
  · exact ⟨_, _, _, Draws.list hh it a hne its, ⟨hit, p⟩, Nat.le_of_lt hl, fun z => absurd hl (Nat.not_lt.mpr z)⟩
  · refine ⟨i, fun _ _ => False, fun j h => h.IsListIter it a i ∧ h.IsList a its ∧ j = i, ?_, ⟨hit, p, rfl⟩, Nat.le_refl _, fun _ => rfl⟩
    exact { live := fun _ _ q => let ⟨o, ho, _⟩ := q.1; ⟨o, ho⟩
            frame := fun _ _ _ q hk => ⟨q.1.at fun o e => hk it (by simp) o e, q.2.1.at fun o e => hk a (by simp) o e, q.2.2⟩
            item := fun j s Q E hj q _ => absurd q.2.2 (Nat.ne_of_lt hj)
            done := fun s Q E q hE => wpAny_nextOf_list_end hh q.1 q.2.1 (by simp; omega) hE }
theorem turn_zipTL {P : Program} {w : World} {K : PySem.W.Frag} {elts : List Expr} {kk : Nat} {tpos : Pos} {a b z TI TO i1 i2 : Addr} (S : ZipSep2 z TI TO i1 i2 [i1, a] [i2, b]) (n1 : a ≠ i1) (n2 : b ≠ i2) :
    Turn P w K (.Tuple elts kk tpos) (ItzTL K a b) [z, TI, TO, i1, i2] z (fun i h => IsZip h z TI TO .none ∧ IsTupOf2 h TI (.ref i1) (.ref i2) ∧ (∃ a b, IsTupOf2 h TO a b) ∧ h.IsTupleIter i1 a i ∧ h.IsListIter i2 b i) where
  mem := by simp
  obj := fun i h q c hc => by
    obtain ⟨hz, hTI, ⟨u, v, hTO⟩, ⟨o1, e1, _, d1⟩, ⟨o2, e2, _, d2⟩⟩ := q
    have e' : c = z ∨ c = TI ∨ c = TO ∨ c = i1 ∨ c = i2 := by simpa using hc
    rcases e' with rfl | rfl | rfl | rfl | rfl
    · exact ⟨_, hz, fun v q => nomatch q⟩
    · exact ⟨_, hTI, fun v q => nomatch q⟩
    · exact ⟨_, hTO, fun v q => nomatch q⟩
    · exact ⟨o1, e1, fun v q => by rw [d1] at q; cases q⟩
    · exact ⟨o2, e2, fun v q => by rw [d2] at q; cases q⟩
  keep := fun i h h' q k => by
    obtain ⟨hz, hTI, ⟨u, v, hTO⟩, h1, h2⟩ := q
    exact ⟨k z (by simp) _ hz, k TI (by simp) _ hTI, ⟨u, v, k TO (by simp) _ hTO⟩, h1.at fun o q => k i1 (by simp) o q, h2.at fun o q => k i2 (by simp) o q⟩
  item := by
    intro X hP hw hK hc i pins s σ H E I hf q hg
    subst hP hw hK
    obtain ⟨hz, hTI, ⟨a0, b0, hTO⟩, h1, h2⟩ := q
    obtain ⟨xs, ys, x, y, hqx, hqy, hx, hy⟩ := hg
    obtain ⟨its, rv, p, _⟩ := I.tuple hqx
    obtain ⟨its2, rv2, p2, _⟩ := I.list hqy
    obtain ⟨u, hu, ru⟩ := rv.get hx
    obtain ⟨u2, hu2, ru2⟩ := rv2.get hy
    have p : s.heap.IsTuple a its.toArray := p
    have p2 : s.heap.IsList b its2.toArray := p2.isList
    have g1 : i < its.toArray.size := by simpa using (List.getElem?_eq_some_iff.mp hu).1
    have g2 : i < its2.toArray.size := by simpa using (List.getElem?_eq_some_iff.mp hu2).1
    have hzl : z < s.heap.objs.size := Heap.lt_size hz
    have D1 := Draws.tuple (prog := X.prog) (w := X.w) (A := X.A.in1) (I.ok.hd hc) i1 a n1 its.toArray
    have D2 := Draws.list (prog := X.prog) (w := X.w) (A := X.A.in1) (I.ok.hd hc) i2 b n2 its2.toArray
    refine wpAny_pyNext_zipD2_item S D1 D2 hz hTI hTO ⟨h1, p⟩ ⟨h2, p2⟩ g1 g2 fun v1 v2 h' tk q1 q2 z' TO' h1' h2' hT hsz hk => ?_
    have e1 : v1 = u := by
      have q1 : its.toArray[i]? = some v1 := q1
      rw [List.getElem?_toArray, hu] at q1
      exact (Option.some.inj q1).symm
    have e2 : v2 = u2 := by
      have q2 : its2.toArray[i]? = some v2 := q2
      rw [List.getElem?_toArray, hu2] at q2
      exact (Option.some.inj q2).symm
    subst e1 e2
    refine ⟨_, rfl, wpAny_letOwnedTupleGo_zip (s := { s with heap := h', toks := tk }) z' fun h'' z'' sb => ?_⟩
    have hT2 : h''.get? s.heap.objs.size = some { cls := .type "tuple", data := .seq #[v1, v2] } := (sb.2 _ (Nat.ne_of_gt hzl)).trans hT
    have new : ObjOk X.prog X.w (upd H s.heap.objs.size (.tup [x, y])) h'' s.heap.objs.size (.tup [x, y]) :=
      ⟨by show 2 ≤ sizeLine; decide, [v1, v2], .cons ru (.cons ru2 .nil), ⟨_, hT2, rfl, _, rfl⟩⟩
    have I1 : Inv X pins σ (upd H s.heap.objs.size (.tup [x, y])) { s with heap := h'', toks := tk } :=
      I.turnedNew (ch := [z, TI, TO, i1, i2]) (fun c o hb q => (sb.2 c (fun q' => hb (by simp [q']))).trans (hk c o (fun q' => hb (by simp [q'])) (fun q' => hb (by simp [q'])) (fun q' => hb (by simp [q'])) (fun q' => hb (by simp [q'])) q)) hf (Nat.le_refl _) new
    refine ⟨.ref s.heap.objs.size, _, I1, rfl, ⟨_, x, y, rfl, I.hok.fresh (Nat.le_refl _), rfl, fun l hl => by rw [I.tuple_inj hl hqx]; exact hx, fun l hl => by rw [I.list_inj hl hqy]; exact hy⟩, ⟨z'', ?_, ⟨v1, v2, ?_⟩, ?_, ?_⟩, fun c hcm => ?_⟩
    · exact (sb.2 _ S.TIz).trans (hk _ _ S.TIz S.TITO S.TIi1 S.TIi2 hTI)
    · exact (sb.2 _ S.TOz).trans TO'
    · exact h1'.1.at fun o q => (sb.2 _ (Ne.symm S.zi1)).trans q
    · exact h2'.1.at fun o q => (sb.2 _ (Ne.symm S.zi2)).trans q
    · have hlt : c < s.heap.objs.size := by
        have e' : c = z ∨ c = TI ∨ c = TO ∨ c = i1 ∨ c = i2 := by simpa using hcm
        rcases e' with rfl | rfl | rfl | rfl | rfl
        · exact hzl
        · exact Heap.lt_size hTI
        · exact Heap.lt_size hTO
        · obtain ⟨_, e1, _⟩ := h1; exact Heap.lt_size e1
        · obtain ⟨_, e2, _⟩ := h2; exact Heap.lt_size e2
      rw [upd_ne (Nat.ne_of_lt hlt)]
      exact (hf c hcm).1
  done := by
    intro X hP hw hK hc i pins s σ H E I hf q hg
    subst hP hw hK
    obtain ⟨hz, hTI, ⟨a0, b0, hTO⟩, h1, h2⟩ := q
    obtain ⟨xs, ys, hqx, hqy, hend⟩ := hg
    obtain ⟨its, rv, p, _⟩ := I.tuple hqx
    obtain ⟨its2, rv2, p2, _⟩ := I.list hqy
    have p : s.heap.IsTuple a its.toArray := p
    have p2 : s.heap.IsList b its2.toArray := p2.isList
    have l1 := rv.length
    have l2 := rv2.length
    obtain ⟨m1, R1, Z1, D1, z1, le1, ed1⟩ := drawT (prog := X.prog) (w := X.w) (A := X.A.in1) (I.ok.hd hc) h1 p n1
    obtain ⟨m2, R2, Z2, D2, z2, le2, ed2⟩ := drawL (prog := X.prog) (w := X.w) (A := X.A.in1) (I.ok.hd hc) h2 p2 n2
    refine wpAny_pyNext_zipD2_end S D1 D2 hz hTI hTO z1 z2 le1 le2 (hend.imp (fun q => ed1 (by simp; omega)) fun q => ed2 (by simp; omega)) fun h' tk hk => ⟨rfl, I.turnedL (t' := tk) (ch := [z, TI, TO, i1, i2]) (fun c o hb q =>
      hk c o (fun q' => hb (by simp [q'])) (fun q' => hb (by simp [q'])) (fun q' => hb (by simp [q'])) (fun q' => hb (by simp [q'])) q) hf⟩
  self := fun A i s Q E q h => wpAny_pyIter_zip q.1 h
theorem sepTL (n a b : Nat) (la : a < n) (lb : b < n) : ZipSep2 (n + 4) (n + 2) (n + 3) n (n + 1) [n, a] [n + 1, b] := by
  have two : ∀ x y z : Nat, x ≠ y → x ≠ z → (x : Addr) ∉ ([y, z] : List Addr) := fun x y z h1 h2 h => by
    rcases List.mem_cons.mp h with h | h
    · exact h1 h
    · exact h2 (List.mem_singleton.mp h)
  have ne : ∀ x y : Nat, x ≠ y → @Ne Addr x y := fun _ _ h => h
  exact ⟨ne _ _ (by omega), ne _ _ (by omega), ne _ _ (by omega), ne _ _ (by omega), List.mem_cons_self, two _ _ _ (by omega) (by omega), two _ _ _ (by omega) (by omega), ne _ _ (by omega), List.mem_cons_self, two _ _ _ (by omega) (by omega), two _ _ _ (by omega) (by omega), two _ _ _ (by omega) (by omega), two _ _ _ (by omega) (by omega)⟩
def iZipTL (K : PySem.W.Frag) (ta : TA) : TI := fun σ H R => ta σ H fun vs H1 => ∃ a b xs ys, vs = [.ref a, .ref b] ∧ SqT K H1 a xs ∧ SqL K H1 b ys ∧ R (ItzTL K a b) H1
theorem pi_zipTL {X : Cx} {e e2 : Expr} {ta : TA} {p pos tpos : Pos} {elts : List Expr} {kk : Nat} (hg : Gl X "zip") (hm : X.mg "zip" = none) (ha : PA X [e, e2] ta)
    (hs : starEach [e, e2] X.env = (false, eval e X.env) :: starEach [e2] X.env := by rfl) (hpl : (backTo pos (starEach [e2] X.env)).any (·.1) = false := by rfl) :
    PI X (.Tuple elts kk tpos) (.Call (.Name "zip" p) [e, e2] [] pos) (iZipTL X.K ta) := by
  refine ⟨fun pins s σ H R I h => ?_⟩
  refine Call_ (ld_blt I hg hm PyProof.Rows.boot_zip (PyProof.Rows.callWith_type1 (thn (ha.run pos pins s σ H _ I h) fun us s1 ⟨vs, H1, I1, r1, q1⟩ => ?_) hs hpl))
  obtain ⟨a, b, xs, ys, ex, hqx, hqy, q⟩ := q1
  subst ex
  cases r1 with
  | cons r rr =>
    cases rr with
    | cons r' rr =>
      cases rr
      cases r
      cases r'
      obtain ⟨its, rv, p1, _⟩ := I1.tuple hqx
      obtain ⟨its2, rv2, p2, _⟩ := I1.list hqy
      have p1 : s1.heap.IsTuple a its.toArray := p1
      have la : a < s1.heap.objs.size := by obtain ⟨_, q, _⟩ := p1; exact Heap.lt_size q
      have lb : b < s1.heap.objs.size := p2.lt
      have S : ZipSep2 (s1.heap.objs.size + 4) (s1.heap.objs.size + 2) (s1.heap.objs.size + 3) s1.heap.objs.size (s1.heap.objs.size + 1) [s1.heap.objs.size, a] [s1.heap.objs.size + 1, b] := sepTL _ a b la lb
      refine zip_begins2 (begins_tuple a its.toArray) (begins_list b its2.toArray) p1 p2.isList fun h' hz hTI hTO h1 h2 hsz hk => wpAny_pyIter_zip hz ?_
      refine ⟨s1.heap.objs.size + 4, [s1.heap.objs.size + 4, s1.heap.objs.size + 2, s1.heap.objs.size + 3, s1.heap.objs.size, s1.heap.objs.size + 1], _, _, H1, rfl, I1.kept (t' := s1.toks) hk, turn_zipTL S (Nat.ne_of_lt la) (Nat.ne_of_lt (Nat.lt_succ_of_lt lb)), ⟨hz, hTI, ⟨_, _, hTO⟩, ⟨_, h1, rfl, rfl⟩, ⟨_, h2, rfl, rfl⟩⟩, fun c hcm => ?_, q⟩
      have hle : s1.heap.objs.size ≤ c := by
        have e' : c = s1.heap.objs.size + 4 ∨ c = s1.heap.objs.size + 2 ∨ c = s1.heap.objs.size + 3 ∨ c = s1.heap.objs.size ∨ c = s1.heap.objs.size + 1 := by simpa using hcm
        rcases e' with z | z | z | z | z
        · rw [z]; exact Nat.le_add_right _ _
        · rw [z]; exact Nat.le_add_right _ _
        · rw [z]; exact Nat.le_add_right _ _
        · rw [z]; exact Nat.le_refl _
        · rw [z]; exact Nat.le_add_right _ _
      exact I1.fpOk hle (I1.hok.fresh hle)
theorem jok_zipTL {K : Fr} {C F1 : Hp} {a b : Addr} {ds es : List D} {vs us : List V} (hC : SqT K C a vs) (r : Reps K F1 ds vs) (hE : Rd C b (.lst us)) (q : Reps K F1 es us) : JOk K C F1 (ItzTL K a b) (zips ds es) where
  go := fun i H h hi => by
    rw [zips_len] at hi
    obtain ⟨v, hv, _⟩ := r.get (List.getElem?_eq_getElem (show i < ds.length by omega))
    obtain ⟨u, hu, _⟩ := q.get (List.getElem?_eq_getElem (show i < es.length by omega))
    exact ⟨vs, us, v, u, h.sqT hC, .inl (h.rd hE), hv, hu⟩
  yld := fun i F H x H' h f fh hi y => by
    obtain ⟨T, v, u, rfl, hT, rfl, y1, y2⟩ := y
    obtain ⟨d, hd, hr⟩ := r.getV (y1 vs (h.sqT hC))
    obtain ⟨e, he, hr2⟩ := q.getV (y2 us (.inl (h.rd hE)))
    refine ⟨upd F T (.tup [v, u]), .tup [d, e], growT fh hT, zips_get hd he, ?_⟩
    unfold Rep
    exact ⟨T, _, rfl, .inl (.inl upd_same), Reps.cons (Rep.mono (f.trans (Sub.upd (fh.none hT))) _ _ hr) (Reps.cons (Rep.mono (f.trans (Sub.upd (fh.none hT))) _ _ hr2) Reps.nil)⟩
  stop := fun i H h hi => ⟨vs, us, h.sqT hC, .inl (h.rd hE), by rw [zips_len] at hi; rw [← r.length, ← q.length]; omega⟩
/-- zip of a tuple and a list -/
def zipTA (R : M (List D)) : M (List D) := R.bind fun ds => M.lift (match ds with | [.tup xs, .lst ys] => some (zips xs ys) | _ => none)
theorem k_zipTA {X : Cx} {c : Ct} {e e2 : Expr} {p pos : Pos} {R : M (List D)} {tpos : Pos} {elts : List Expr} {kk : Nat} (hk : c.K = X.K) (hg : Gl X "zip") (hm : X.mg "zip" = none) (ha : PA X [e, e2] (tFs c R)) (hs : starEach [e, e2] X.env = (false, eval e X.env) :: starEach [e2] X.env := by rfl) (hpl : (backTo pos (starEach [e2] X.env)).any (·.1) = false := by rfl) :
    PI X (.Tuple elts kk tpos) (.Call (.Name "zip" p) [e, e2] [] pos) (tK c (zipTA R)) := by
  refine (pi_zipTL hg hm ha hs hpl).imp fun σ H Q ⟨F, ρ, S, k⟩ => ⟨F, ρ, S, k.step fun ds ρ1 xs F1 H1 S1 r1 f1 h1 a1 => ?_⟩
  obtain ⟨as, e, q⟩ := a1.liftA S1
  rw [← hk]
  split at e
  · cases e
    obtain ⟨x, r, rfl, k2, k3⟩ := Reps.inv r1
    obtain ⟨y, r', rfl, k4, k5⟩ := k3.inv
    have k5 := k5.inv0
    subst k5
    unfold Rep at k2 k4
    obtain ⟨a, vs, rfl, h2, k2⟩ := k2
    obtain ⟨b, us, rfl, h4, k4⟩ := k4
    exact ⟨a, b, vs, us, rfl, S1.fh.sqT h2, .inl (S1.fh.rd h4), q _ F1 H1 (Grow.refl S1.fh) (jok_zipTL h2 k2 h4 k4)⟩
  · cases e
end PM
namespace LawW
open PySem PySem.Spec PyProof.Rows L2 PM
/-! ### the text -/
def topS (i : Nat) : Stmt := PySem.Challenge.pw_inkedtrue_k40_page_forms.main.body.getD i (.Pass ⟨0, 0, 0, 0⟩)
abbrev s__law_numbers : Stmt := topS 19
abbrev N__law_numbers : List Str := ["script", "at", "count", "cell", "numbers", "k", "mixed"]
theorem sc__law_numbers : FnScope N__law_numbers ["script", "at", "count"] (defScope s__law_numbers) := ⟨rfl, rfl, rfl, by decide +kernel, rfl, by decide +kernel, by decide +kernel⟩
abbrev s__law_form : Stmt := topS 23
abbrev N__law_form : List Str := ["script", "at", "drawn", "width", "space", "shrink", "indent", "height", "leading"]
theorem sc__law_form : FnScope N__law_form ["script", "at"] (defScope s__law_form) := ⟨rfl, rfl, rfl, by decide +kernel, rfl, by decide +kernel, by decide +kernel⟩
abbrev s_is_whole : Stmt := topS 7
abbrev N_is_whole : List Str := ["value"]
theorem sc_is_whole : FnScope N_is_whole ["value"] (defScope s_is_whole) := ⟨rfl, rfl, rfl, by decide +kernel, rfl, by decide +kernel, by decide +kernel⟩
abbrev s_has_fields : Stmt := topS 11
abbrev N_has_fields : List Str := ["value", "number"]
theorem sc_has_fields : FnScope N_has_fields ["value"] (defScope s_has_fields) := ⟨rfl, rfl, rfl, by decide +kernel, rfl, by decide +kernel, by decide +kernel⟩
abbrev s_first_wrong : Stmt := topS 12
abbrev N_first_wrong : List Str := ["value", "width", "height", "space", "stretch", "shrink", "indent", "leading", "_", "wrong", "name", "told"]
theorem sc_first_wrong : FnScope N_first_wrong ["value"] (defScope s_first_wrong) := ⟨rfl, rfl, rfl, by decide +kernel, rfl, by decide +kernel, by decide +kernel⟩
abbrev s_check_form : Stmt := topS 13
abbrev N_check_form : List Str := ["value", "wrong"]
theorem sc_check_form : FnScope N_check_form ["value"] (defScope s_check_form) := ⟨rfl, rfl, rfl, by decide +kernel, rfl, by decide +kernel, by decide +kernel⟩
abbrev s_is_form : Stmt := topS 14
abbrev N_is_form : List Str := ["value"]
theorem sc_is_form : FnScope N_is_form ["value"] (defScope s_is_form) := ⟨rfl, rfl, rfl, by decide +kernel, rfl, by decide +kernel, by decide +kernel⟩
abbrev s__law_changed : Stmt := topS 26
abbrev N__law_changed : List Str := ["form", "values", "k", "row", "other", "number"]
theorem sc__law_changed : FnScope N__law_changed ["form"] (defScope s__law_changed) := ⟨rfl, rfl, rfl, by decide +kernel, rfl, by decide +kernel, by decide +kernel⟩
abbrev s__law_reason : Stmt := topS 22
abbrev N__law_reason : List Str := ["value", "number", "pair"]
theorem sc__law_reason : FnScope N__law_reason ["value"] (defScope s__law_reason) := ⟨rfl, rfl, rfl, by decide +kernel, rfl, by decide +kernel, by decide +kernel⟩
abbrev s__law_same : Stmt := topS 21
abbrev N__law_same : List Str := ["told", "due"]
theorem sc__law_same : FnScope N__law_same ["told", "due"] (defScope s__law_same) := ⟨rfl, rfl, rfl, by decide +kernel, rfl, by decide +kernel, by decide +kernel⟩
abbrev s_unindented : Stmt := topS 15
abbrev N_unindented : List Str := ["form"]
theorem sc_unindented : FnScope N_unindented ["form"] (defScope s_unindented) := ⟨rfl, rfl, rfl, by decide +kernel, rfl, by decide +kernel, by decide +kernel⟩
abbrev s_with_width : Stmt := topS 16
abbrev N_with_width : List Str := ["form", "width", "found"]
theorem sc_with_width : FnScope N_with_width ["form", "width"] (defScope s_with_width) := ⟨rfl, rfl, rfl, by decide +kernel, rfl, by decide +kernel, by decide +kernel⟩
abbrev s__law_alike : Stmt := topS 20
abbrev N__law_alike : List Str := ["told", "due", "k"]
theorem sc__law_alike : FnScope N__law_alike ["told", "due"] (defScope s__law_alike) := ⟨rfl, rfl, rfl, by decide +kernel, rfl, by decide +kernel, by decide +kernel⟩
abbrev s__law_refused : Stmt := topS 24
abbrev N__law_refused : List Str := ["value", "reason", "wide", "e"]
theorem sc__law_refused : FnScope N__law_refused ["value", "reason", "wide"] (defScope s__law_refused) := ⟨rfl, rfl, rfl, by decide +kernel, rfl, by decide +kernel, by decide +kernel⟩
abbrev s__law_checked : Stmt := topS 25
abbrev N__law_checked : List Str := ["value", "reason"]
theorem sc__law_checked : FnScope N__law_checked ["value"] (defScope s__law_checked) := ⟨rfl, rfl, rfl, by decide +kernel, rfl, by decide +kernel, by decide +kernel⟩
abbrev s_quoted : Stmt := topS 17
abbrev N_quoted : List Str := ["form"]
theorem sc_quoted : FnScope N_quoted ["form"] (defScope s_quoted) := ⟨rfl, rfl, rfl, by decide +kernel, rfl, by decide +kernel, by decide +kernel⟩
abbrev s_law : Stmt := topS 27
abbrev N_law : List Str := ["script", "form", "value", "width", "due", "reason"]
theorem sc_law : FnScope N_law ["script"] (defScope s_law) := ⟨rfl, rfl, rfl, by decide +kernel, rfl, by decide +kernel, by decide +kernel⟩
/-! ### what it does -/
def L1__law_numbers : SM := (wpS [6] (ifS (asB (bin geD (pvar 3) (pk (bin powD (pk (cst (.int 10))) (pk (cst (.int 18)))))))
  (seqS (wpS [2, 5] (appS 4 (pk (bin modD (pvar 3) (pk (cst (.int 1009)))))))
  (asgS 3 (bin fdivD (pvar 3) (pk (cst (.int 1009))))))
  (seqS (wpS [2] (asgS 6 (bin modD (pk (bin addD (pk (bin addD (pk (bin mulD (pvar 3) (pk (cst (.int 48271))))) (pk (bin mulD (pk (bin addD (pvar 5) (pk (cst (.int 1))))) (pk (cst (.int 69621))))))) (pk (bin mulD (pvar 1) (pk (cst (.int 4001))))))) (pk (cst (.int 2147483647))))))
  (seqS (wpS [5] (asgS 6 (bin modD (pk (bin addD (pk (bin mulD (pvar 6) (pvar 6))) (pk (bin mulD (pk (cst (.int 16807))) (pk (bin addD (pvar 5) (pk (cst (.int 3))))))))) (pk (cst (.int 2147483629))))))
  (appS 4 (pk (bin modD (pk (bin fdivD (pvar 6) (pk (cst (.int 7))))) (pk (cst (.int 1009))))))))))
def S__law_numbers : SM := (seqS (asgS 3 (bin mulD (pk (cst (.int 1000003))) (pk (bin addD (pvar 1) (pk (cst (.int 1)))))))
  (seqS (wpS [0] (ifS (asB (bin ltD (pvar 1) (pk (blt lenD (acons (pvar 0) anil)))))
  (asgS 3 (blt intA (acons (pk (bin ixD (pvar 0) (pvar 1))) anil)))
  skip))
  (seqS (ifS (asB (bin ltD (pvar 3) (pk (cst (.int 0)))))
  (asgS 3 (bin subD (pk (cst (.int 1))) (pk (bin mulD (pk (cst (.int 2))) (pvar 3)))))
  skip)
  (seqS (asgS 4 (lstE anil))
  (seqS (wpS [1, 2, 3] (forS (rng1 (acons (pvar 2) anil)) (tgN 5) (L1__law_numbers)))
  (retV 4))))))
def M__law_numbers : FM := runF 7 3 S__law_numbers
def T1__law_form : SM := (wpS [0, 1] (asgS 2 (callE M__law_numbers (cvw 0 (cvw 1 (cval (pk (cst (.int 10))) cnil))))))
def T2__law_form : SM := (asgS 3 (bin addD (pk (cst (.int 1))) (pk (bin mulD (pk (bin ixD (pvar 2) (pk (cst (.int 0))))) (pk (bin ixD (pk (lstE (acons (pk (cst (.int 1))) (acons (pk (cst (.int 98))) anil)))) (pk (bin modD (pk (bin ixD (pvar 2) (pk (cst (.int 9))))) (pk (cst (.int 2)))))))))))
def T3__law_form : SM := (asgS 4 (bin addD (pk (cst (.int 1))) (pk (bin mulD (pk (bin ixD (pvar 2) (pk (cst (.int 1))))) (pk (bin ixD (pk (lstE (acons (pk (cst (.int 1))) (acons (pk (cst (.int 99))) anil)))) (pk (bin modD (pk (bin fdivD (pk (bin ixD (pvar 2) (pk (cst (.int 9))))) (pk (cst (.int 2))))) (pk (cst (.int 2)))))))))))
def T4__law_form : SM := (asgS 5 (bin modD (pk (bin ixD (pvar 2) (pk (cst (.int 2))))) (pvar 4)))
def T5__law_form : SM := (ifS (asB (bin eqD (pk (bin modD (pk (bin ixD (pvar 2) (pk (cst (.int 9))))) (pk (cst (.int 3))))) (pk (cst (.int 0)))))
  (asgS 5 (bin subD (pvar 4) (pk (cst (.int 1)))))
  skip)
def T6__law_form : SM := (asgS 6 (bin modD (pk (bin ixD (pvar 2) (pk (cst (.int 3))))) (pk (bin fdivD (pk (bin addD (pvar 3) (pk (cst (.int 1))))) (pk (cst (.int 2)))))))
def T7__law_form : SM := (ifS (asB (bin eqD (pk (bin modD (pk (bin ixD (pvar 2) (pk (cst (.int 9))))) (pk (cst (.int 5))))) (pk (cst (.int 0)))))
  (asgS 6 (bin fdivD (pk (bin subD (pvar 3) (pk (cst (.int 1))))) (pk (cst (.int 2)))))
  skip)
def T8__law_form : SM := (asgS 7 (bin addD (pk (cst (.int 1))) (pk (bin mulD (pk (bin ixD (pvar 2) (pk (cst (.int 4))))) (pk (bin ixD (pk (lstE (acons (pk (cst (.int 1))) (acons (pk (cst (.int 98))) anil)))) (pk (bin modD (pk (bin fdivD (pk (bin ixD (pvar 2) (pk (cst (.int 9))))) (pk (cst (.int 4))))) (pk (cst (.int 2)))))))))))
def T9__law_form : SM := (asgS 8 (bin addD (pk (cst (.int 1))) (pk (bin modD (pk (bin ixD (pvar 2) (pk (cst (.int 5))))) (pvar 7)))))
def T10__law_form : SM := (ifS (asB (bin eqD (pk (bin modD (pk (bin ixD (pvar 2) (pk (cst (.int 9))))) (pk (cst (.int 7))))) (pk (cst (.int 0)))))
  (asgS 8 (var 7))
  skip)
def T11__law_form : SM := (retS (tupE (acons (pk (var 3)) (acons (pk (var 7)) (acons (pk (var 4)) (acons (pk (bin addD (pk (cst (.int 1))) (pk (bin ixD (pvar 2) (pk (cst (.int 6))))))) (acons (pk (var 5)) (acons (pk (var 6)) (acons (pk (var 8)) (acons (pk (bin mulD (pk (bin ixD (pvar 2) (pk (cst (.int 7))))) (pk (cst (.int 99))))) (acons (pk (bin ixD (pvar 2) (pk (cst (.int 8))))) anil)))))))))))
def S__law_form : SM := (seqS (T1__law_form)
  (seqS (T2__law_form)
  (seqS (T3__law_form)
  (seqS (T4__law_form)
  (seqS (T5__law_form)
  (seqS (T6__law_form)
  (seqS (T7__law_form)
  (seqS (T8__law_form)
  (seqS (T9__law_form)
  (seqS (T10__law_form)
  (T11__law_form)))))))))))
def M__law_form : FM := runF 9 2 S__law_form
def S_is_whole : SM := (retS (vand (isi .int (pvar 0)) (vnot (isi .bl (pvar 0)))))
def M_is_whole : FM := runF 1 1 S_is_whole
def C1_has_fields : M D := (pk (vand (callE M_is_whole (cvw 1 cnil)) (chn leD leD (pk (cst (.int 0))) (pvar 1) (pk (cst (.int 99999))))))
def X1_has_fields : M PM.Slot := lcE (src (pvar 0)) (tgN 1) yes (C1_has_fields) [1]
def S_has_fields : SM := (seqS (ifS (tor (tnot (tru (pk (isi .tup (pvar 0))))) (asB (bin neD (pk (blt lenD (acons (pvar 0) anil))) (pk (blt lenD (acons (pk (cst (.tup [.str [119, 105, 100, 116, 104], .str [104, 101, 105, 103, 104, 116], .str [115, 112, 97, 99, 101], .str [115, 116, 114, 101, 116, 99, 104], .str [115, 104, 114, 105, 110, 107], .str [105, 110, 100, 101, 110, 116], .str [108, 101, 97, 100, 105, 110, 103], .str [98, 114, 111, 107, 101, 110], .str [102, 111, 108, 105, 111]]))) anil))))))
  (retS (cst (.bl false)))
  skip)
  (retS (blt allD (acons (pk (X1_has_fields)) anil))))
def M_has_fields : FM := runF 2 1 S_has_fields
def L1_first_wrong : SM := (wpS [9, 10, 11] (ifS (tru (pvar 11))
  (retV 10)
  skip))
def S_first_wrong : SM := (seqS (wpS [0, 8] (tgS (pk (var 0)) (tgT [(tgN 1), (tgN 2), (tgN 3), (tgN 4), (tgN 5), (tgN 6), (tgN 7), (tgN 8), (tgN 8)])))
  (seqS (wpS [1, 3, 4, 5, 6] (asgS 9 (lstE (acons (pk (bin ltD (pvar 1) (pk (cst (.int 1))))) (acons (pk (bin ltD (pvar 2) (pk (cst (.int 1))))) (acons (pk (bin ltD (pvar 3) (pk (cst (.int 1))))) (acons (pk (bin ltD (pvar 4) (pk (cst (.int 1))))) (acons (pk (bin geD (pvar 5) (pvar 3))) (acons (pk (bin geD (pk (bin mulD (pk (cst (.int 2))) (pvar 6))) (pvar 1))) anil)))))))))
  (seqS (wpS [2, 7] (appS 9 (pk (vnot (chn leD leD (pk (cst (.int 1))) (pvar 7) (pvar 2))))))
  (seqS (wpS [9] (forS (zipTA (acons (pk (cst (.tup [.str [119, 105, 100, 116, 104], .str [104, 101, 105, 103, 104, 116], .str [115, 112, 97, 99, 101], .str [115, 116, 114, 101, 116, 99, 104], .str [115, 104, 114, 105, 110, 107], .str [105, 110, 100, 101, 110, 116], .str [108, 101, 97, 100, 105, 110, 103], .str [98, 114, 111, 107, 101, 110], .str [102, 111, 108, 105, 111]]))) (acons (pk (var 9)) anil))) (tgT [(tgN 10), (tgN 11)]) (L1_first_wrong)))
  (retS (cst .non))))))
def M_first_wrong : FM := runF 12 1 S_first_wrong
def S_check_form : SM := (seqS (ifS (tnot (tru (pk (callE M_has_fields (cvw 0 cnil)))))
  (raiseF "BadForm" "reason" (pk (cst (.str [102, 111, 114, 109]))))
  skip)
  (seqS (wpS [0] (asgS 1 (callE M_first_wrong (cvw 0 cnil))))
  (wpS [1] (ifS (asB (bin isNotD (pvar 1) (pk (cst .non))))
  (raiseF "BadForm" "reason" (pk (var 1)))
  skip))))
def M_check_form : FM := runF 2 1 S_check_form
def S_is_form : SM := (retS (vand (callE M_has_fields (cvw 0 cnil)) (bin isD (pk (callE M_first_wrong (cvw 0 cnil))) (pk (cst .non)))))
def M_is_form : FM := runF 1 1 S_is_form
def L1__law_changed : SM := (wpS [4] (asgS 3 (bin addD (pvar 3) (pk (lstE (acons (pk (bin ixD (pvar 0) (pvar 4))) (acons (pk (bin addD (pk (bin ixD (pvar 0) (pvar 4))) (pk (cst (.int 1))))) (acons (pk (bin subD (pk (bin ixD (pvar 0) (pvar 4))) (pk (cst (.int 1))))) anil))))))))
def L2__law_changed : SM := (wpS [3, 5] (appS 1 (pk (bin addD (pk (bin addD (pk (sli (pvar 0) ono (oin (pvar 2)))) (pk (tupE (acons (pk (var 5)) anil))))) (pk (sli (pvar 0) (oin (pk (bin addD (pvar 2) (pk (cst (.int 1)))))) ono))))))
def L3__law_changed : SM := (wpS [2, 3] (seqS (asgS 3 (lstE (acons (pk (cst (.int 0))) (acons (pk (cst (.int 1))) (acons (pk (cst (.int 2))) (acons (pk (cst (.int 99999))) (acons (pk (cst (.int 100000))) (acons (pk (una negD (pk (cst (.int 1))))) (acons (pk (bin powD (pk (cst (.int 10))) (pk (cst (.int 30))))) (acons (pk (cst .non)) (acons (pk (cst (.bl true))) (acons (pk (cst (.bl false))) (acons (pk (cst (.str [49]))) (acons (pk (tupE (acons (pk (cst (.int 1))) anil))) (acons (pk (bin addD (pk (bin ixD (pvar 0) (pvar 2))) (pk (cst (.int 1))))) (acons (pk (bin subD (pk (bin ixD (pvar 0) (pvar 2))) (pk (cst (.int 1))))) anil))))))))))))))))
  (seqS (forS (rng1 (acons (pk (cst (.int 9))) anil)) (tgN 4) (L1__law_changed))
  (seqS (asgS 3 (bin addD (pvar 3) (pk (lstE (acons (pk (bin mulD (pk (cst (.int 2))) (pk (bin ixD (pvar 0) (pk (cst (.int 5))))))) (acons (pk (bin addD (pk (bin mulD (pk (cst (.int 2))) (pk (bin ixD (pvar 0) (pk (cst (.int 5))))))) (pk (cst (.int 1))))) (acons (pk (bin fdivD (pk (bin addD (pk (bin ixD (pvar 0) (pk (cst (.int 0))))) (pk (cst (.int 1))))) (pk (cst (.int 2))))) (acons (pk (bin fdivD (pk (bin ixD (pvar 0) (pk (cst (.int 0))))) (pk (cst (.int 2))))) anil))))))))
  (forS (src (pk (var 3))) (tgN 5) (L2__law_changed))))))
def L4__law_changed : SM := (wpS [4] (seqS (appS 1 (pk (bin addD (pk (bin addD (pk (bin addD (pk (bin addD (pk (sli (pvar 0) ono (oin (pvar 2)))) (pk (tupE (acons (pk (cst (.int 0))) anil))))) (pk (sli (pvar 0) (oin (pk (bin addD (pvar 2) (pk (cst (.int 1)))))) (oin (pvar 4)))))) (pk (tupE (acons (pk (cst (.int 0))) anil))))) (pk (sli (pvar 0) (oin (pk (bin addD (pvar 4) (pk (cst (.int 1)))))) ono)))))
  (seqS (appS 1 (pk (bin addD (pk (bin addD (pk (bin addD (pk (bin addD (pk (sli (pvar 0) ono (oin (pvar 2)))) (pk (tupE (acons (pk (cst (.int 0))) anil))))) (pk (sli (pvar 0) (oin (pk (bin addD (pvar 2) (pk (cst (.int 1)))))) (oin (pvar 4)))))) (pk (tupE (acons (pk (cst (.int 100000))) anil))))) (pk (sli (pvar 0) (oin (pk (bin addD (pvar 4) (pk (cst (.int 1)))))) ono)))))
  (appS 1 (pk (bin addD (pk (bin addD (pk (bin addD (pk (bin addD (pk (sli (pvar 0) ono (oin (pvar 2)))) (pk (tupE (acons (pk (cst (.int 99999))) anil))))) (pk (sli (pvar 0) (oin (pk (bin addD (pvar 2) (pk (cst (.int 1)))))) (oin (pvar 4)))))) (pk (tupE (acons (pk (cst (.int 99999))) anil))))) (pk (sli (pvar 0) (oin (pk (bin addD (pvar 4) (pk (cst (.int 1)))))) ono))))))))
def L5__law_changed : SM := (wpS [2] (forS (rng2 (acons (pk (bin addD (pvar 2) (pk (cst (.int 1))))) (acons (pk (cst (.int 9))) anil))) (tgN 4) (L4__law_changed)))
def S__law_changed : SM := (seqS (asgS 1 (lstE (acons (pk (cst .non)) (acons (pk (cst (.bl true))) (acons (pk (cst (.bl false))) (acons (pk (cst (.int 0))) (acons (pk (cst (.int 7))) (acons (pk (cst (.str [102, 111, 114, 109]))) (acons (pk (tupE anil)) (acons (pk (lstE anil)) (acons (pk (blt listA (acons (pvar 0) anil))) (acons (pk (sli (pvar 0) ono (oin (pk (cst (.int 8)))))) (acons (pk (bin addD (pvar 0) (pk (tupE (acons (pk (cst (.int 0))) anil))))) (acons (pk (sli (pvar 0) (oin (pk (cst (.int 1)))) ono)) (acons (pk (tupE (acons (pk (var 0)) anil))) (acons (pk (bin mulTD (pk (tupE (acons (pk (cst .non)) anil))) (pk (cst (.int 9))))) (acons (pk (cst (.str [49, 50, 51, 52, 53, 54, 55, 56, 57]))) anil)))))))))))))))))
  (seqS (forS (rng1 (acons (pk (cst (.int 9))) anil)) (tgN 2) (L3__law_changed))
  (seqS (wpS [0] (forS (rng1 (acons (pk (cst (.int 8))) anil)) (tgN 2) (L5__law_changed)))
  (retV 1))))
def M__law_changed : FM := runF 6 1 S__law_changed
def L1__law_reason : SM := (wpS [1] (ifS (tor (tnot (tru (pk (isi .int (pvar 1))))) (tor (tru (pk (isi .bl (pvar 1)))) (tor (asB (bin ltD (pvar 1) (pk (cst (.int 0))))) (asB (bin gtD (pvar 1) (pk (cst (.int 99999))))))))
  (retS (cst (.str [102, 111, 114, 109])))
  skip))
def L2__law_reason : SM := (wpS [2] (ifS (asB (bin ltD (pk (bin ixD (pvar 0) (pk (bin ixD (pvar 2) (pk (cst (.int 0))))))) (pk (cst (.int 1)))))
  (retS (bin ixD (pvar 2) (pk (cst (.int 1)))))
  skip))
def T1__law_reason : SM := (ifS (tor (tnot (tru (pk (isi .tup (pvar 0))))) (asB (bin neD (pk (blt lenD (acons (pvar 0) anil))) (pk (cst (.int 9))))))
  (retS (cst (.str [102, 111, 114, 109])))
  skip)
def T2__law_reason : SM := (forS (src (pk (var 0))) (tgN 1) (L1__law_reason))
def T3__law_reason : SM := (forS (src (pk (lstE (acons (pk (tupE (acons (pk (cst (.int 0))) (acons (pk (cst (.str [119, 105, 100, 116, 104]))) anil)))) (acons (pk (tupE (acons (pk (cst (.int 1))) (acons (pk (cst (.str [104, 101, 105, 103, 104, 116]))) anil)))) (acons (pk (tupE (acons (pk (cst (.int 2))) (acons (pk (cst (.str [115, 112, 97, 99, 101]))) anil)))) (acons (pk (tupE (acons (pk (cst (.int 3))) (acons (pk (cst (.str [115, 116, 114, 101, 116, 99, 104]))) anil)))) anil))))))) (tgN 2) (L2__law_reason))
def T4__law_reason : SM := (ifS (asB (bin geD (pk (bin ixD (pvar 0) (pk (cst (.int 4))))) (pk (bin ixD (pvar 0) (pk (cst (.int 2)))))))
  (retS (cst (.str [115, 104, 114, 105, 110, 107])))
  skip)
def T5__law_reason : SM := (ifS (asB (bin geD (pk (bin mulD (pk (cst (.int 2))) (pk (bin ixD (pvar 0) (pk (cst (.int 5))))))) (pk (bin ixD (pvar 0) (pk (cst (.int 0)))))))
  (retS (cst (.str [105, 110, 100, 101, 110, 116])))
  skip)
def T6__law_reason : SM := (wpS [0] (ifS (tor (asB (bin ltD (pk (bin ixD (pvar 0) (pk (cst (.int 6))))) (pk (cst (.int 1))))) (asB (bin gtD (pk (bin ixD (pvar 0) (pk (cst (.int 6))))) (pk (bin ixD (pvar 0) (pk (cst (.int 1))))))))
  (retS (cst (.str [108, 101, 97, 100, 105, 110, 103])))
  skip))
def T7__law_reason : SM := (retS (cst .non))
def S__law_reason : SM := (seqS (T1__law_reason)
  (seqS (T2__law_reason)
  (seqS (T3__law_reason)
  (seqS (T4__law_reason)
  (seqS (T5__law_reason)
  (seqS (T6__law_reason)
  (T7__law_reason)))))))
def M__law_reason : FM := runF 3 1 S__law_reason
def S__law_same : SM := (seqS (wpS [1] (ifS (tru (pvar 1))
  (retS (bin isD (pvar 0) (pk (cst (.bl true)))))
  skip))
  (retS (bin isD (pvar 0) (pk (cst (.bl false))))))
def M__law_same : FM := runF 2 2 S__law_same
def S_unindented : SM := (retS (bin addD (pk (bin addD (pk (sli (pvar 0) ono (oin (pk (cst (.int 5)))))) (pk (tupE (acons (pk (cst (.int 0))) anil))))) (pk (sli (pvar 0) (oin (pk (cst (.int 6)))) ono))))
def M_unindented : FM := runF 1 1 S_unindented
def S_with_width : SM := (seqS (wpS [0, 1] (asgS 2 (bin addD (pk (tupE (acons (pk (var 1)) anil))) (pk (sli (pk (callE M_unindented (cvw 0 cnil))) (oin (pk (cst (.int 1)))) ono)))))
  (seqS (dropS (callE M_check_form (cvw 2 cnil)))
  (retV 2)))
def M_with_width : FM := runF 3 2 S_with_width
def L1__law_alike (g : FM) : SM := (wpS [2] (ifS (tnot (tru (pk (callE g (cval (pk (bin ixD (pvar 0) (pvar 2))) (cval (pk (bin ixD (pvar 1) (pvar 2))) cnil))))))
  (retS (cst (.bl false)))
  skip))
def L2__law_alike (g : FM) : SM := (wpS [2] (ifS (tnot (tru (pk (callE g (cval (pk (bin ixD (pvar 0) (pvar 2))) (cval (pk (bin ixD (pvar 1) (pvar 2))) cnil))))))
  (retS (cst (.bl false)))
  skip))
def T1__law_alike (g : FM) : SM := (wpS [2] (ifS (tru (pk (isi .tup (pvar 1))))
  (seqS (ifS (tor (tnot (tru (pk (isi .tup (pvar 0))))) (asB (bin neD (pk (blt lenD (acons (pvar 0) anil))) (pk (blt lenD (acons (pvar 1) anil))))))
  (retS (cst (.bl false)))
  skip)
  (seqS (wpS [0, 1] (forS (rng1 (acons (pk (blt lenD (acons (pvar 1) anil))) anil)) (tgN 2) (L1__law_alike g)))
  (retS (cst (.bl true)))))
  skip))
def T2__law_alike (g : FM) : SM := (wpS [2] (ifS (tru (pk (isi .lst (pvar 1))))
  (seqS (ifS (tor (tnot (tru (pk (isi .lst (pvar 0))))) (asB (bin neD (pk (blt lenD (acons (pvar 0) anil))) (pk (blt lenD (acons (pvar 1) anil))))))
  (retS (cst (.bl false)))
  skip)
  (seqS (wpS [0, 1] (forS (rng1 (acons (pk (blt lenD (acons (pvar 1) anil))) anil)) (tgN 2) (L2__law_alike g)))
  (retS (cst (.bl true)))))
  skip))
def T3__law_alike (g : FM) : SM := (ifS (tru (pk (isi .str (pvar 1))))
  (retS (vand (isi .str (pvar 0)) (bin eqD (pvar 0) (pvar 1))))
  skip)
def T4__law_alike (g : FM) : SM := (ifS (asB (bin isD (pvar 1) (pk (cst .non))))
  (retS (bin isD (pvar 0) (pk (cst .non))))
  skip)
def T5__law_alike (g : FM) : SM := (ifS (asB (bin isD (pvar 1) (pk (cst (.bl true)))))
  (retS (bin isD (pvar 0) (pk (cst (.bl true)))))
  skip)
def T6__law_alike (g : FM) : SM := (ifS (asB (bin isD (pvar 1) (pk (cst (.bl false)))))
  (retS (bin isD (pvar 0) (pk (cst (.bl false)))))
  skip)
def T7__law_alike (g : FM) : SM := (retS (vand (isi .int (pvar 0)) (vand (vnot (isi .bl (pvar 0))) (bin eqD (pvar 0) (pvar 1)))))
def S__law_alike (g : FM) : SM := (seqS (T1__law_alike g)
  (seqS (T2__law_alike g)
  (seqS (T3__law_alike g)
  (seqS (T4__law_alike g)
  (seqS (T5__law_alike g)
  (seqS (T6__law_alike g)
  (T7__law_alike g)))))))
def M__law_alike : Nat → FM
  | 0 => fun _ => .bad
  | m + 1 => runF 3 2 (S__law_alike (M__law_alike m))
theorem len__law_alike (m : Nat) (ds : List D) (h : M__law_alike m ds ≠ .bad) : ds.length = 2 := by
  cases m with
  | zero => exact absurd rfl h
  | succ m => exact runF_len ds h
def T1__law_alike__h : SM := (wpS [2] (ifS (tru (pk (isi .tup (pvar 1))))
  (seqS (ifS (tor (tnot (tru (pk (isi .tup (pvar 0))))) (asB (bin neD (pk (blt lenD (acons (pvar 0) anil))) (pk (blt lenD (acons (pvar 1) anil))))))
  (retS (cst (.bl false)))
  skip)
  (seqS (wpS [0, 1] badS)
  (retS (cst (.bl true)))))
  skip))
def T2__law_alike__h : SM := (wpS [2] (ifS (tru (pk (isi .lst (pvar 1))))
  (seqS (ifS (tor (tnot (tru (pk (isi .lst (pvar 0))))) (asB (bin neD (pk (blt lenD (acons (pvar 0) anil))) (pk (blt lenD (acons (pvar 1) anil))))))
  (retS (cst (.bl false)))
  skip)
  (seqS (wpS [0, 1] badS)
  (retS (cst (.bl true)))))
  skip))
def T3__law_alike__h : SM := (ifS (tru (pk (isi .str (pvar 1))))
  (retS (vand (isi .str (pvar 0)) (bin eqD (pvar 0) (pvar 1))))
  skip)
def T4__law_alike__h : SM := (ifS (asB (bin isD (pvar 1) (pk (cst .non))))
  (retS (bin isD (pvar 0) (pk (cst .non))))
  skip)
def T5__law_alike__h : SM := (ifS (asB (bin isD (pvar 1) (pk (cst (.bl true)))))
  (retS (bin isD (pvar 0) (pk (cst (.bl true)))))
  skip)
def T6__law_alike__h : SM := (ifS (asB (bin isD (pvar 1) (pk (cst (.bl false)))))
  (retS (bin isD (pvar 0) (pk (cst (.bl false)))))
  skip)
def T7__law_alike__h : SM := (retS (vand (isi .int (pvar 0)) (vand (vnot (isi .bl (pvar 0))) (bin eqD (pvar 0) (pvar 1)))))
theorem sc__law_alike__h : FnScope N__law_alike ["told", "due"] (defScope s__law_alike) := sc__law_alike
def S__law_alike__h : SM := (seqS (T1__law_alike__h)
  (seqS (T2__law_alike__h)
  (seqS (T3__law_alike__h)
  (seqS (T4__law_alike__h)
  (seqS (T5__law_alike__h)
  (seqS (T6__law_alike__h)
  (T7__law_alike__h)))))))
def M__law_alike__h : FM := runF 3 2 S__law_alike__h
def B1__law_refused : SM := (ifS (asB (bin isD (pvar 2) (pk (cst .non))))
  (dropS (callE M_check_form (cvw 0 cnil)))
  (dropS (callE M_with_width (cvw 0 (cvw 2 cnil)))))
def H1__law_refused : List Hn := [⟨some 3, [("BadForm", true)], fun e => (seqS (wpS [0, 2] (ifS (tor (tru (pk (isE [("BadForm", false)] e))) (tru (pk (isE [("BadForm", false)] e))))
  (retS (cst (.bl false)))
  skip))
  (retS (vand (isE [("BadForm", true)] e) (vand (isE [("BadForm", true)] e) (callE (noX M__law_alike__h) (cval (pk (fldE [("BadForm", true)] "reason" e)) (cvw 1 cnil)))))))⟩, ⟨none, [("BadForm", true)], fun e => (retS (cst (.bl false)))⟩]
def S__law_refused : SM := (seqS (wpS [0, 1, 2] (tryS (B1__law_refused) (H1__law_refused)))
  (retS (cst (.bl false))))
def M__law_refused : FM := runF 4 3 S__law_refused
def S__law_checked : SM := (seqS (asgS 1 (callE M__law_reason (cvw 0 cnil)))
  (seqS (ifS (tnot (tru (pk (callE M__law_same (cval (pk (callE M_is_form (cvw 0 cnil))) (cval (pk (bin isD (pvar 1) (pk (cst .non)))) cnil))))))
  (retS (cst (.bl false)))
  skip)
  (seqS (ifS (asB (bin isD (pvar 1) (pk (cst .non))))
  (retS (bin isD (pk (callE M_check_form (cvw 0 cnil))) (pk (cst .non))))
  skip)
  (retS (callE M__law_refused (cvw 0 (cvw 1 (cval (pk (cst .non)) cnil))))))))
def M__law_checked : FM := runF 2 1 S__law_checked
def S_quoted : SM := (retS (bin addD (pk (tupE (acons (pk (bin subD (pk (bin ixD (pvar 0) (pk (cst (.int 0))))) (pk (bin mulD (pk (cst (.int 2))) (pk (bin ixD (pvar 0) (pk (cst (.int 5))))))))) anil))) (pk (sli (pk (callE M_unindented (cvw 0 cnil))) (oin (pk (cst (.int 1)))) ono))))
def M_quoted : FM := runF 1 1 S_quoted
def L1_law : SM := (wpS [2] (ifS (tnot (tru (pk (callE M__law_checked (cvw 2 cnil)))))
  (retS (cst (.bl false)))
  skip))
def L2_law : SM := (wpS [3, 4, 5] (seqS (wpS [0] (asgS 4 (bin addD (pk (bin addD (pk (bin addD (pk (tupE (acons (pk (var 3)) anil))) (pk (sli (pvar 1) (oin (pk (cst (.int 1)))) (oin (pk (cst (.int 5)))))))) (pk (tupE (acons (pk (cst (.int 0))) anil))))) (pk (sli (pvar 1) (oin (pk (cst (.int 6)))) ono)))))
  (seqS (asgS 5 (callE M__law_reason (cvw 4 cnil)))
  (ifS (asB (bin isD (pvar 5) (pk (cst .non))))
  (ifS (tnot (tru (pk (callE (M__law_alike 12) (cval (pk (callE M_with_width (cvw 1 (cvw 3 cnil)))) (cvw 4 cnil))))))
  (retS (cst (.bl false)))
  skip)
  (ifS (tnot (tru (pk (callE M__law_refused (cvw 1 (cvw 5 (cvw 3 cnil)))))))
  (retS (cst (.bl false)))
  skip)))))
def T1_law : SM := (asgS 1 (callE M__law_form (cvw 0 (cval (pk (cst (.int 0))) cnil))))
def T2_law : SM := (ifS (tor (asB (bin isNotD (pk (callE M_check_form (cvw 1 cnil))) (pk (cst .non)))) (asB (bin isNotD (pk (callE M_is_form (cvw 1 cnil))) (pk (cst (.bl true))))))
  (retS (cst (.bl false)))
  skip)
def T3_law : SM := (forS (src (pk (callE M__law_changed (cvw 1 cnil)))) (tgN 2) (L1_law))
def T4_law : SM := (wpS [0] (forS (src (pk (lstE (acons (pk (cst (.int 0))) (acons (pk (cst (.int 1))) (acons (pk (bin addD (pk (bin ixD (pvar 1) (pk (cst (.int 0))))) (pk (cst (.int 1))))) (acons (pk (cst (.int 99999))) (acons (pk (cst (.int 100000))) (acons (pk (una negD (pk (cst (.int 1))))) (acons (pk (bin mulD (pk (cst (.int 2))) (pk (bin ixD (pvar 1) (pk (cst (.int 5))))))) (acons (pk (bin mulD (pk (bin ixD (pk (callE M__law_numbers (cvw 0 (cval (pk (cst (.int 1))) (cval (pk (cst (.int 1))) cnil))))) (pk (cst (.int 0))))) (pk (cst (.int 99))))) anil))))))))))) (tgN 3) (L2_law)))
def T5_law : SM := (ifS (tnot (tru (pk (callE (M__law_alike 12) (cval (pk (callE M_unindented (cvw 1 cnil))) (cval (pk (bin addD (pk (bin addD (pk (sli (pvar 1) ono (oin (pk (cst (.int 5)))))) (pk (tupE (acons (pk (cst (.int 0))) anil))))) (pk (sli (pvar 1) (oin (pk (cst (.int 6)))) ono)))) cnil))))))
  (retS (cst (.bl false)))
  skip)
def T6_law : SM := (asgS 4 (bin addD (pk (bin addD (pk (bin addD (pk (tupE (acons (pk (bin subD (pk (bin ixD (pvar 1) (pk (cst (.int 0))))) (pk (bin mulD (pk (cst (.int 2))) (pk (bin ixD (pvar 1) (pk (cst (.int 5))))))))) anil))) (pk (sli (pvar 1) (oin (pk (cst (.int 1)))) (oin (pk (cst (.int 5)))))))) (pk (tupE (acons (pk (cst (.int 0))) anil))))) (pk (sli (pvar 1) (oin (pk (cst (.int 6)))) ono))))
def T7_law : SM := (retS (vand (callE (M__law_alike 12) (cval (pk (callE M_quoted (cvw 1 cnil))) (cvw 4 cnil))) (vand (callE (M__law_alike 12) (cval (pk (callE M_quoted (cvw 4 cnil))) (cvw 4 cnil))) (callE (M__law_alike 12) (cval (pk (callE M_unindented (cvw 4 cnil))) (cvw 4 cnil))))))
def S_law : SM := (seqS (T1_law)
  (seqS (T2_law)
  (seqS (T3_law)
  (seqS (T4_law)
  (seqS (T5_law)
  (seqS (T6_law)
  (T7_law)))))))
def M_law : FM := runF 6 1 S_law
/-! ### what is known of the module -/
structure Fx (P : Program) (K : Fr) (mg : Str → Option Value) where
  a__law_numbers : Addr
  d__law_numbers : FuncData
  F__law_numbers : FunD K "_law_numbers" "_law_numbers" (defArgs s__law_numbers) (defBody s__law_numbers) (defScope s__law_numbers) [] [] a__law_numbers d__law_numbers
  g__law_numbers : mg "_law_numbers" = some (.ref a__law_numbers)
  a__law_form : Addr
  d__law_form : FuncData
  F__law_form : FunD K "_law_form" "_law_form" (defArgs s__law_form) (defBody s__law_form) (defScope s__law_form) [] [] a__law_form d__law_form
  g__law_form : mg "_law_form" = some (.ref a__law_form)
  a_is_whole : Addr
  d_is_whole : FuncData
  F_is_whole : FunD K "is_whole" "is_whole" (defArgs s_is_whole) (defBody s_is_whole) (defScope s_is_whole) [] [] a_is_whole d_is_whole
  g_is_whole : mg "is_whole" = some (.ref a_is_whole)
  a_has_fields : Addr
  d_has_fields : FuncData
  F_has_fields : FunD K "has_fields" "has_fields" (defArgs s_has_fields) (defBody s_has_fields) (defScope s_has_fields) [] [] a_has_fields d_has_fields
  g_has_fields : mg "has_fields" = some (.ref a_has_fields)
  a_first_wrong : Addr
  d_first_wrong : FuncData
  F_first_wrong : FunD K "first_wrong" "first_wrong" (defArgs s_first_wrong) (defBody s_first_wrong) (defScope s_first_wrong) [] [] a_first_wrong d_first_wrong
  g_first_wrong : mg "first_wrong" = some (.ref a_first_wrong)
  a_check_form : Addr
  d_check_form : FuncData
  F_check_form : FunD K "check_form" "check_form" (defArgs s_check_form) (defBody s_check_form) (defScope s_check_form) [] [] a_check_form d_check_form
  g_check_form : mg "check_form" = some (.ref a_check_form)
  a_is_form : Addr
  d_is_form : FuncData
  F_is_form : FunD K "is_form" "is_form" (defArgs s_is_form) (defBody s_is_form) (defScope s_is_form) [] [] a_is_form d_is_form
  g_is_form : mg "is_form" = some (.ref a_is_form)
  a__law_changed : Addr
  d__law_changed : FuncData
  F__law_changed : FunD K "_law_changed" "_law_changed" (defArgs s__law_changed) (defBody s__law_changed) (defScope s__law_changed) [] [] a__law_changed d__law_changed
  g__law_changed : mg "_law_changed" = some (.ref a__law_changed)
  a__law_reason : Addr
  d__law_reason : FuncData
  F__law_reason : FunD K "_law_reason" "_law_reason" (defArgs s__law_reason) (defBody s__law_reason) (defScope s__law_reason) [] [] a__law_reason d__law_reason
  g__law_reason : mg "_law_reason" = some (.ref a__law_reason)
  a__law_same : Addr
  d__law_same : FuncData
  F__law_same : FunD K "_law_same" "_law_same" (defArgs s__law_same) (defBody s__law_same) (defScope s__law_same) [] [] a__law_same d__law_same
  g__law_same : mg "_law_same" = some (.ref a__law_same)
  a_unindented : Addr
  d_unindented : FuncData
  F_unindented : FunD K "unindented" "unindented" (defArgs s_unindented) (defBody s_unindented) (defScope s_unindented) [] [] a_unindented d_unindented
  g_unindented : mg "unindented" = some (.ref a_unindented)
  a_with_width : Addr
  d_with_width : FuncData
  F_with_width : FunD K "with_width" "with_width" (defArgs s_with_width) (defBody s_with_width) (defScope s_with_width) [] [] a_with_width d_with_width
  g_with_width : mg "with_width" = some (.ref a_with_width)
  a__law_alike : Addr
  d__law_alike : FuncData
  F__law_alike : FunD K "_law_alike" "_law_alike" (defArgs s__law_alike) (defBody s__law_alike) (defScope s__law_alike) [] [] a__law_alike d__law_alike
  g__law_alike : mg "_law_alike" = some (.ref a__law_alike)
  a__law_refused : Addr
  d__law_refused : FuncData
  F__law_refused : FunD K "_law_refused" "_law_refused" (defArgs s__law_refused) (defBody s__law_refused) (defScope s__law_refused) [] [] a__law_refused d__law_refused
  g__law_refused : mg "_law_refused" = some (.ref a__law_refused)
  a__law_checked : Addr
  d__law_checked : FuncData
  F__law_checked : FunD K "_law_checked" "_law_checked" (defArgs s__law_checked) (defBody s__law_checked) (defScope s__law_checked) [] [] a__law_checked d__law_checked
  g__law_checked : mg "_law_checked" = some (.ref a__law_checked)
  a_quoted : Addr
  d_quoted : FuncData
  F_quoted : FunD K "quoted" "quoted" (defArgs s_quoted) (defBody s_quoted) (defScope s_quoted) [] [] a_quoted d_quoted
  g_quoted : mg "quoted" = some (.ref a_quoted)
  a_law : Addr
  d_law : FuncData
  F_law : FunD K "law" "law" (defArgs s_law) (defBody s_law) (defScope s_law) [] [] a_law d_law
  g_law : mg "law" = some (.ref a_law)
  m_ValueError : mg "ValueError" = none
  m_all : mg "all" = none
  m_bool : mg "bool" = none
  m_int : mg "int" = none
  m_isinstance : mg "isinstance" = none
  m_len : mg "len" = none
  m_list : mg "list" = none
  m_range : mg "range" = none
  m_str : mg "str" = none
  m_super : mg "super" = none
  m_tuple : mg "tuple" = none
  m_zip : mg "zip" = none
  c_MOST : ∃ t, mg "MOST" = some (.int 99999 t)
  t_FIELDS : GlD K mg "FIELDS" (.tup [.str [119, 105, 100, 116, 104], .str [104, 101, 105, 103, 104, 116], .str [115, 112, 97, 99, 101], .str [115, 116, 114, 101, 116, 99, 104], .str [115, 104, 114, 105, 110, 107], .str [105, 110, 100, 101, 110, 116], .str [108, 101, 97, 100, 105, 110, 103], .str [98, 114, 111, 107, 101, 110], .str [102, 111, 108, 105, 111]])
  k_BadBook : mg "BadBook" = some (.ref (He.ga K "BadBook")) ∧ XCls K (He.ga K "BadBook")
  k_BadDeed : mg "BadDeed" = some (.ref (He.ga K "BadDeed")) ∧ XCls K (He.ga K "BadDeed")
  k_BadFont : mg "BadFont" = some (.ref (He.ga K "BadFont")) ∧ XCls K (He.ga K "BadFont")
  k_BadForm : mg "BadForm" = some (.ref (He.ga K "BadForm")) ∧ XCls K (He.ga K "BadForm")
  k_InkError : mg "InkError" = some (.ref (He.ga K "InkError")) ∧ XCls K (He.ga K "InkError")
  e_BadForm_BadForm : exmB K "BadForm" "BadForm" true = true
  e_BadForm_InkError : exmB K "BadForm" "InkError" true = true
  i_BadForm_BadBook : kitB1 K "BadForm" "BadBook" false = true
  i_BadForm_BadDeed : kitB1 K "BadForm" "BadDeed" false = true
  i_BadForm_BadFont : kitB1 K "BadForm" "BadFont" false = true
  i_BadForm_InkError : kitB1 K "BadForm" "InkError" true = true
  i_BadForm_ValueError : kitBT K "BadForm" "ValueError" true = true
  x_BadForm : ∀ w base CX, MkX P w K mg base CX "BadForm" "reason" "reason"
end LawW
namespace LawW
open PySem PySem.Spec PyProof.Rows L2 PM
/-! ### the head -/
def D__law_numbers : He.DefD := ⟨("_law_numbers", none), "_law_numbers", "_law_numbers", defArgs s__law_numbers, defBody s__law_numbers, defScope s__law_numbers, [], []⟩
def D__law_form : He.DefD := ⟨("_law_form", none), "_law_form", "_law_form", defArgs s__law_form, defBody s__law_form, defScope s__law_form, [], []⟩
def D_is_whole : He.DefD := ⟨("is_whole", none), "is_whole", "is_whole", defArgs s_is_whole, defBody s_is_whole, defScope s_is_whole, [], []⟩
def D_has_fields : He.DefD := ⟨("has_fields", none), "has_fields", "has_fields", defArgs s_has_fields, defBody s_has_fields, defScope s_has_fields, [], []⟩
def D_first_wrong : He.DefD := ⟨("first_wrong", none), "first_wrong", "first_wrong", defArgs s_first_wrong, defBody s_first_wrong, defScope s_first_wrong, [], []⟩
def D_check_form : He.DefD := ⟨("check_form", none), "check_form", "check_form", defArgs s_check_form, defBody s_check_form, defScope s_check_form, [], []⟩
def D_is_form : He.DefD := ⟨("is_form", none), "is_form", "is_form", defArgs s_is_form, defBody s_is_form, defScope s_is_form, [], []⟩
def D__law_changed : He.DefD := ⟨("_law_changed", none), "_law_changed", "_law_changed", defArgs s__law_changed, defBody s__law_changed, defScope s__law_changed, [], []⟩
def D__law_reason : He.DefD := ⟨("_law_reason", none), "_law_reason", "_law_reason", defArgs s__law_reason, defBody s__law_reason, defScope s__law_reason, [], []⟩
def D__law_same : He.DefD := ⟨("_law_same", none), "_law_same", "_law_same", defArgs s__law_same, defBody s__law_same, defScope s__law_same, [], []⟩
def D_unindented : He.DefD := ⟨("unindented", none), "unindented", "unindented", defArgs s_unindented, defBody s_unindented, defScope s_unindented, [], []⟩
def D_with_width : He.DefD := ⟨("with_width", none), "with_width", "with_width", defArgs s_with_width, defBody s_with_width, defScope s_with_width, [], []⟩
def D__law_alike : He.DefD := ⟨("_law_alike", none), "_law_alike", "_law_alike", defArgs s__law_alike, defBody s__law_alike, defScope s__law_alike, [], []⟩
def D__law_refused : He.DefD := ⟨("_law_refused", none), "_law_refused", "_law_refused", defArgs s__law_refused, defBody s__law_refused, defScope s__law_refused, [], []⟩
def D__law_checked : He.DefD := ⟨("_law_checked", none), "_law_checked", "_law_checked", defArgs s__law_checked, defBody s__law_checked, defScope s__law_checked, [], []⟩
def D_quoted : He.DefD := ⟨("quoted", none), "quoted", "quoted", defArgs s_quoted, defBody s_quoted, defScope s_quoted, [], []⟩
def D_law : He.DefD := ⟨("law", none), "law", "law", defArgs s_law, defBody s_law, defScope s_law, [], []⟩
def fn : List He.DefD := [D__law_numbers, D__law_form, D_is_whole, D_has_fields, D_first_wrong, D_check_form, D_is_form, D__law_changed, D__law_reason, D__law_same, D_unindented, D_with_width, D__law_alike, D__law_refused, D__law_checked, D_quoted, D_law]
def fa : List He.Fa := [.glo "_law_numbers", .glo "_law_form", .glo "is_whole", .glo "has_fields", .glo "first_wrong", .glo "check_form", .glo "is_form", .glo "_law_changed", .glo "_law_reason", .glo "_law_same", .glo "unindented", .glo "with_width", .glo "_law_alike", .glo "_law_refused", .glo "_law_checked", .glo "quoted", .glo "law", .free "ValueError", .free "all", .free "bool", .free "int", .free "isinstance", .free "len", .free "list", .free "range", .free "str", .free "super", .free "tuple", .free "zip", .int "MOST" 99999]
abbrev PP : Program := PySem.Challenge.pw_inkedtrue_k40_page_forms
abbrev si_BadForm : Stmt := clsIni (topS 3)
def I_BadForm : IniD := ⟨"BadForm", "BadForm.__init__", defArgs si_BadForm, defBody si_BadForm, defScope si_BadForm⟩
theorem iS_BadForm : IniS PP I_BadForm "reason" (fun i => ([⟨12, 8, 12, 13⟩, ⟨12, 8, 12, 15⟩, ⟨12, 8, 12, 24⟩, ⟨12, 25, 12, 31⟩, ⟨12, 8, 12, 32⟩, ⟨12, 8, 12, 32⟩, ⟨13, 8, 13, 12⟩, ⟨13, 8, 13, 19⟩, ⟨13, 22, 13, 28⟩, ⟨13, 8, 13, 28⟩] : List Pos).getD i.val ⟨0, 0, 0, 0⟩) "reason" PP.main.file := ⟨rfl, by decide, by decide, by rfl, by decide +kernel, by rfl, by rfl, ⟨by rfl, by decide⟩, fun _ _ _ _ _ us hl => match us, hl with | [_, _], _ => rfl⟩
def cs : List IniD := [I_BadForm]
abbrev R : PySem.W.OpenRow := PySem.W.OpenLaw.row PySem.Challenge.rw_inkedtrue_k40_page_forms
def exs (K : PM.Fr) : List Bool := [glB K "FIELDS" (.tup [.str [119, 105, 100, 116, 104], .str [104, 101, 105, 103, 104, 116], .str [115, 112, 97, 99, 101], .str [115, 116, 114, 101, 116, 99, 104], .str [115, 104, 114, 105, 110, 107], .str [105, 110, 100, 101, 110, 116], .str [108, 101, 97, 100, 105, 110, 103], .str [98, 114, 111, 107, 101, 110], .str [102, 111, 108, 105, 111]]), clsB K "BadBook", clsB K "BadDeed", clsB K "BadFont", clsB K "BadForm", clsB K "InkError", exmB K "BadForm" "BadForm" true, exmB K "BadForm" "InkError" true, kitB1 K "BadForm" "BadBook" false, kitB1 K "BadForm" "BadDeed" false, kitB1 K "BadForm" "BadFont" false, kitB1 K "BadForm" "InkError" true, kitBT K "BadForm" "ValueError" true, supB PP.main.file K "BadForm" I_BadForm.qual "reason"]
def ex (K : PM.Fr) : Bool := (exs K).all id
theorem ex_at {K : PM.Fr} (h : ex K = true) (i : Nat) {b : Bool} (e : (exs K)[i]? = some b := by rfl) : b = true := List.all_eq_true.mp h b (List.mem_of_getElem? e)
abbrev hk : PySem.W.Hook := hookO 4 fa fn cs ex
def ob (s : PySem.W.SharedT) : AlO := obsO 4 fa fn cs ex (HandSHeadRun.getT s)
theorem ob_eq (s : PySem.W.SharedT) : ob s = hk.obs s.abs := obsO_eq (HandSHeadRun.getT_eq s)
abbrev loose : List Str := (["InkError", "BadFont", "BadForm", "BadBook", "BadDeed", "is_whole", "MOST", "FIELDS", "has_fields", "first_wrong", "check_form", "is_form", "unindented", "with_width", "quoted", "_law_numbers"] : List Str) ++ (["_law_alike", "_law_same", "_law_reason", "_law_form", "_law_refused", "_law_checked", "_law_changed"] : List Str)
theorem run1 (w : World) (os : OsState) : (HandSHeadRun.endF (HandSHeadRun.stepQ (HandSHeadRun.denQ HandSHeadRun.tabQ) R.prog w) 20000 R.prog w os).map (fun x => (HandSHeadRun.looksF R.prog (PySem.W.boot_heap w.params) x.abs, HandSHeadRun.seenQ (PySem.W.view R.prog [27]) loose (importedModules R.prog.main.body) (fun s => PySem.W.xlAt (PySem.W.view R.prog [27]) [] s && PySem.W.recOk R.toRowW.records s) x.abs)) = some (true, PySem.W.openGood (PySem.W.view R.prog [27]) loose) := by kernel_rfl
theorem run2 (w : World) (os : OsState) : (HandSHeadRun.endF (HandSHeadRun.stepQ (HandSHeadRun.denQ HandSHeadRun.tabQ) R.prog w) 20000 R.prog w os).map (fun x => ob x) = some (hk.val w) := by kernel_rfl
theorem run (w : World) : HandSHeadRun.RunEq R (PySem.W.view R.prog [27]) hk ob 20000 loose w := fun os => map2 (run1 w os) (run2 w os)
theorem facts {K : PM.Fr} {h : Heap} {mg : Str → Option Value} (X : K.In h) (G : h.Ns mainGlobals mg) (c : He.SaysD fa fn K) (hex : ex K = true) (hcs : (cs.map fun d => iniW K d.n) = cs.map IniD.val) : Nonempty (Fx PP K mg) := by
  obtain ⟨d__law_numbers, F__law_numbers⟩ := c.def_ 0 (d := D__law_numbers) rfl
  obtain ⟨d__law_form, F__law_form⟩ := c.def_ 1 (d := D__law_form) rfl
  obtain ⟨d_is_whole, F_is_whole⟩ := c.def_ 2 (d := D_is_whole) rfl
  obtain ⟨d_has_fields, F_has_fields⟩ := c.def_ 3 (d := D_has_fields) rfl
  obtain ⟨d_first_wrong, F_first_wrong⟩ := c.def_ 4 (d := D_first_wrong) rfl
  obtain ⟨d_check_form, F_check_form⟩ := c.def_ 5 (d := D_check_form) rfl
  obtain ⟨d_is_form, F_is_form⟩ := c.def_ 6 (d := D_is_form) rfl
  obtain ⟨d__law_changed, F__law_changed⟩ := c.def_ 7 (d := D__law_changed) rfl
  obtain ⟨d__law_reason, F__law_reason⟩ := c.def_ 8 (d := D__law_reason) rfl
  obtain ⟨d__law_same, F__law_same⟩ := c.def_ 9 (d := D__law_same) rfl
  obtain ⟨d_unindented, F_unindented⟩ := c.def_ 10 (d := D_unindented) rfl
  obtain ⟨d_with_width, F_with_width⟩ := c.def_ 11 (d := D_with_width) rfl
  obtain ⟨d__law_alike, F__law_alike⟩ := c.def_ 12 (d := D__law_alike) rfl
  obtain ⟨d__law_refused, F__law_refused⟩ := c.def_ 13 (d := D__law_refused) rfl
  obtain ⟨d__law_checked, F__law_checked⟩ := c.def_ 14 (d := D__law_checked) rfl
  obtain ⟨d_quoted, F_quoted⟩ := c.def_ 15 (d := D_quoted) rfl
  obtain ⟨d_law, F_law⟩ := c.def_ 16 (d := D_law) rfl
  exact ⟨{ a__law_numbers := _, d__law_numbers := d__law_numbers, F__law_numbers := F__law_numbers, g__law_numbers := He.glo_ok X G (c.fact 0 rfl), a__law_form := _, d__law_form := d__law_form, F__law_form := F__law_form, g__law_form := He.glo_ok X G (c.fact 1 rfl), a_is_whole := _, d_is_whole := d_is_whole, F_is_whole := F_is_whole, g_is_whole := He.glo_ok X G (c.fact 2 rfl), a_has_fields := _, d_has_fields := d_has_fields, F_has_fields := F_has_fields, g_has_fields := He.glo_ok X G (c.fact 3 rfl), a_first_wrong := _, d_first_wrong := d_first_wrong, F_first_wrong := F_first_wrong, g_first_wrong := He.glo_ok X G (c.fact 4 rfl), a_check_form := _, d_check_form := d_check_form, F_check_form := F_check_form, g_check_form := He.glo_ok X G (c.fact 5 rfl), a_is_form := _, d_is_form := d_is_form, F_is_form := F_is_form, g_is_form := He.glo_ok X G (c.fact 6 rfl), a__law_changed := _, d__law_changed := d__law_changed, F__law_changed := F__law_changed, g__law_changed := He.glo_ok X G (c.fact 7 rfl), a__law_reason := _, d__law_reason := d__law_reason, F__law_reason := F__law_reason, g__law_reason := He.glo_ok X G (c.fact 8 rfl), a__law_same := _, d__law_same := d__law_same, F__law_same := F__law_same, g__law_same := He.glo_ok X G (c.fact 9 rfl), a_unindented := _, d_unindented := d_unindented, F_unindented := F_unindented, g_unindented := He.glo_ok X G (c.fact 10 rfl), a_with_width := _, d_with_width := d_with_width, F_with_width := F_with_width, g_with_width := He.glo_ok X G (c.fact 11 rfl), a__law_alike := _, d__law_alike := d__law_alike, F__law_alike := F__law_alike, g__law_alike := He.glo_ok X G (c.fact 12 rfl), a__law_refused := _, d__law_refused := d__law_refused, F__law_refused := F__law_refused, g__law_refused := He.glo_ok X G (c.fact 13 rfl), a__law_checked := _, d__law_checked := d__law_checked, F__law_checked := F__law_checked, g__law_checked := He.glo_ok X G (c.fact 14 rfl), a_quoted := _, d_quoted := d_quoted, F_quoted := F_quoted, g_quoted := He.glo_ok X G (c.fact 15 rfl), a_law := _, d_law := d_law, F_law := F_law, g_law := He.glo_ok X G (c.fact 16 rfl), m_ValueError := He.free_ok X G (c.fact 17 rfl), m_all := He.free_ok X G (c.fact 18 rfl), m_bool := He.free_ok X G (c.fact 19 rfl), m_int := He.free_ok X G (c.fact 20 rfl), m_isinstance := He.free_ok X G (c.fact 21 rfl), m_len := He.free_ok X G (c.fact 22 rfl), m_list := He.free_ok X G (c.fact 23 rfl), m_range := He.free_ok X G (c.fact 24 rfl), m_str := He.free_ok X G (c.fact 25 rfl), m_super := He.free_ok X G (c.fact 26 rfl), m_tuple := He.free_ok X G (c.fact 27 rfl), m_zip := He.free_ok X G (c.fact 28 rfl), c_MOST := He.int_ok X G (c.fact 29 rfl), t_FIELDS := glB_ok X G (ex_at hex 0), k_BadBook := clsB_ok X G (ex_at hex 1), k_BadDeed := clsB_ok X G (ex_at hex 2), k_BadFont := clsB_ok X G (ex_at hex 3), k_BadForm := clsB_ok X G (ex_at hex 4), k_InkError := clsB_ok X G (ex_at hex 5), e_BadForm_BadForm := ex_at hex 6, e_BadForm_InkError := ex_at hex 7, i_BadForm_BadBook := ex_at hex 8, i_BadForm_BadDeed := ex_at hex 9, i_BadForm_BadFont := ex_at hex 10, i_BadForm_InkError := ex_at hex 11, i_BadForm_ValueError := ex_at hex 12, x_BadForm := fun w base CX => mkX_ok iS_BadForm (iniW_at hcs 0 rfl) (ex_at hex 13) (clsB_ok X G (ex_at hex 4)).1 (He.free_ok X G (c.fact 26 rfl)) }⟩
end LawW
namespace LawW
open PySem PySem.Spec PyProof.Rows L2 PM
--CUT
section
variable {P : Program} {w : World} {K : Fr} {mg : Str → Option Value} {base : Heap}
theorem b__law_numbers (x : Fx P K mg) : Binds K x.d__law_numbers ["script", "at", "count"] [] := x.F__law_numbers.bindsN fun _ _ _ _ _ _ us hl => match us, hl with | [_, _, _], _ => rfl
theorem ok__law_numbers (x : Fx P K mg) : FnOk P w K mg base (L2.CX P w) 1 x.a__law_numbers x.d__law_numbers ["script", "at", "count"] (spF K mg M__law_numbers 3) := by
  refine ok_fun (He5.fun_of x.F__law_numbers) sc__law_numbers (by decide) fun cdv A outer s0 H E hr B F0 => ?_
  have po := passes_of (X := cxOf (L2.CX P w) P w K mg base N__law_numbers "_law_numbers" (defScope s__law_numbers) x.a__law_numbers cdv A outer s0 H E) rfl
  have tk := takes_of (X := cxOf (L2.CX P w) P w K mg base N__law_numbers "_law_numbers" (defScope s__law_numbers) x.a__law_numbers cdv A outer s0 H E) rfl rfl rfl rfl
  exact (ss_cons (s_set (i := 3) sc__law_numbers.nd rfl (by first | exact Or.inl rfl | exact Or.inr rfl) (e_bin op_mulA ok_mul (p_of e_int) (p_of (e_bin op_addA ok_add (p_var (pv 1)) (p_of e_int)))))
  (ss_cons (s_wp (js := [0]) (s_if (t_cmp op_ltA ok_cmp (p_var (pv 1)) (p_of (e_blt op_lenA ok_len (by rfl) x.m_len (by decide +kernel) (q_cons (p_var (pv 0)) q_nil))) (nomark _))
  (ss_one (s_set (i := 3) sc__law_numbers.nd rfl (by first | exact Or.inl rfl | exact Or.inr rfl) (e_typ op_intA ok_intA (by rfl) x.m_int (by decide +kernel) (q_cons (p_of (e_ix rfl (p_var (pv 0)) (p_var (pv 1)) (fun _ _ => rfl))) q_nil))))
  ss_nil))
  (ss_cons (s_if (t_cmp op_ltA ok_cmp (p_var (pv 3)) (p_of e_int) (nomark _))
  (ss_one (s_set (i := 3) sc__law_numbers.nd rfl (by first | exact Or.inl rfl | exact Or.inr rfl) (e_bin op_sub ok_sub (p_of e_int) (p_of (e_bin op_mulA ok_mul (p_of e_int) (p_var (pv 3)))))))
  ss_nil)
  (ss_cons (s_set (i := 4) sc__law_numbers.nd rfl (by first | exact Or.inl rfl | exact Or.inr rfl) (e_lst a_nil))
  (ss_cons (s_wp (js := [1, 2, 3]) (s_for (S1 := (L1__law_numbers)) po rfl (k_rng1 (by rfl) x.m_range (q_cons (p_var (pv 2)) q_nil)) (pg_name (i := 5) sc__law_numbers.nd rfl (by first | exact Or.inl rfl | exact Or.inr rfl)) g_name fun F0 =>
  (ss_wp (js := [6]) (ss_one (s_if (t_cmp op_geA ok_cmp (p_var (pv 3)) (p_of (e_bin op_pow ok_pow (p_of e_int) (p_of e_int))) (nomark _))
  (ss_cons (s_wp (js := [2, 5]) (s_app rfl (pv 4) (f_of (e_bin op_mod ok_mod (p_var (pv 3)) (p_of e_int)))))
  (ss_one (s_set (i := 3) sc__law_numbers.nd rfl (by first | exact Or.inl rfl | exact Or.inr rfl) (e_bin op_fdivX ok_fdivX (p_var (pv 3)) (p_of e_int)))))
  (ss_cons (s_wp (js := [2]) (s_set (i := 6) sc__law_numbers.nd rfl (by first | exact Or.inl rfl | exact Or.inr rfl) (e_bin op_mod ok_mod (p_of (e_bin op_addA ok_add (p_of (e_bin op_addA ok_add (p_of (e_bin op_mulA ok_mul (p_var (pv 3)) (p_of e_int))) (p_of (e_bin op_mulA ok_mul (p_of (e_bin op_addA ok_add (p_var (pv 5)) (p_of e_int))) (p_of e_int))))) (p_of (e_bin op_mulA ok_mul (p_var (pv 1)) (p_of e_int))))) (p_of e_int))))
  (ss_cons (s_wp (js := [5]) (s_set (i := 6) sc__law_numbers.nd rfl (by first | exact Or.inl rfl | exact Or.inr rfl) (e_bin op_mod ok_mod (p_of (e_bin op_addA ok_add (p_of (e_bin op_mulA ok_mul (p_var (pv 6)) (p_var (pv 6)))) (p_of (e_bin op_mulA ok_mul (p_of e_int) (p_of (e_bin op_addA ok_add (p_var (pv 5)) (p_of e_int))))))) (p_of e_int))))
  (ss_one (s_app rfl (pv 4) (f_of (e_bin op_mod ok_mod (p_of (e_bin op_fdivX ok_fdivX (p_var (pv 6)) (p_of e_int))) (p_of e_int))))))))))))
  (ss_one (s_retV (pv 4))))))))
theorem b__law_form (x : Fx P K mg) : Binds K x.d__law_form ["script", "at"] [] := x.F__law_form.bindsN fun _ _ _ _ _ _ us hl => match us, hl with | [_, _], _ => rfl
theorem ok__law_form (x : Fx P K mg) : FnOk P w K mg base (L2.CX P w) 2 x.a__law_form x.d__law_form ["script", "at"] (spF K mg M__law_form 2) := by
  refine ok_fun (He5.fun_of x.F__law_form) sc__law_form (by decide) fun cdv A outer s0 H E hr B F0 => ?_
  have po := passes_of (X := cxOf (L2.CX P w) P w K mg base N__law_form "_law_form" (defScope s__law_form) x.a__law_form cdv A outer s0 H E) rfl
  have tk := takes_of (X := cxOf (L2.CX P w) P w K mg base N__law_form "_law_form" (defScope s__law_form) x.a__law_form cdv A outer s0 H E) rfl rfl rfl rfl
  exact (ss_cons (s_wp (js := [0, 1]) (s_set (i := 2) sc__law_form.nd rfl (by first | exact Or.inl rfl | exact Or.inr rfl) (e_call (ok__law_numbers x) (hr.mono (by first | decide | omega)) rfl rfl tk (fun ds h => runF_len ds h) (by rfl) x.g__law_numbers x.F__law_numbers.kp (b__law_numbers x) (c_vw (pv 0) (c_vw (pv 1) (c_val (f_of e_int) c_nil))))))
  (ss_cons (s_set (i := 3) sc__law_form.nd rfl (by first | exact Or.inl rfl | exact Or.inr rfl) (e_bin op_addA ok_add (p_of e_int) (p_of (e_bin op_mulA ok_mul (p_of (e_ix rfl (p_var (pv 2)) (p_of e_int) (fun _ _ => rfl))) (p_of (e_ix rfl (p_of (e_lst (a_cons (f_of e_int) (a_cons (f_of e_int) a_nil)))) (p_of (e_bin op_mod ok_mod (p_of (e_ix rfl (p_var (pv 2)) (p_of e_int) (fun _ _ => rfl))) (p_of e_int))) (fun _ _ => rfl)))))))
  (ss_cons (s_set (i := 4) sc__law_form.nd rfl (by first | exact Or.inl rfl | exact Or.inr rfl) (e_bin op_addA ok_add (p_of e_int) (p_of (e_bin op_mulA ok_mul (p_of (e_ix rfl (p_var (pv 2)) (p_of e_int) (fun _ _ => rfl))) (p_of (e_ix rfl (p_of (e_lst (a_cons (f_of e_int) (a_cons (f_of e_int) a_nil)))) (p_of (e_bin op_mod ok_mod (p_of (e_bin op_fdivX ok_fdivX (p_of (e_ix rfl (p_var (pv 2)) (p_of e_int) (fun _ _ => rfl))) (p_of e_int))) (p_of e_int))) (fun _ _ => rfl)))))))
  (ss_cons (s_set (i := 5) sc__law_form.nd rfl (by first | exact Or.inl rfl | exact Or.inr rfl) (e_bin op_mod ok_mod (p_of (e_ix rfl (p_var (pv 2)) (p_of e_int) (fun _ _ => rfl))) (p_var (pv 4))))
  (ss_cons (s_if (t_cmp (op_eqD hr.units) ok_eq (p_of (e_bin op_mod ok_mod (p_of (e_ix rfl (p_var (pv 2)) (p_of e_int) (fun _ _ => rfl))) (p_of e_int))) (p_of e_int) (nomark _))
  (ss_one (s_set (i := 5) sc__law_form.nd rfl (by first | exact Or.inl rfl | exact Or.inr rfl) (e_bin op_sub ok_sub (p_var (pv 4)) (p_of e_int))))
  ss_nil)
  (ss_cons (s_set (i := 6) sc__law_form.nd rfl (by first | exact Or.inl rfl | exact Or.inr rfl) (e_bin op_mod ok_mod (p_of (e_ix rfl (p_var (pv 2)) (p_of e_int) (fun _ _ => rfl))) (p_of (e_bin op_fdivX ok_fdivX (p_of (e_bin op_addA ok_add (p_var (pv 3)) (p_of e_int))) (p_of e_int)))))
  (ss_cons (s_if (t_cmp (op_eqD hr.units) ok_eq (p_of (e_bin op_mod ok_mod (p_of (e_ix rfl (p_var (pv 2)) (p_of e_int) (fun _ _ => rfl))) (p_of e_int))) (p_of e_int) (nomark _))
  (ss_one (s_set (i := 6) sc__law_form.nd rfl (by first | exact Or.inl rfl | exact Or.inr rfl) (e_bin op_fdivX ok_fdivX (p_of (e_bin op_sub ok_sub (p_var (pv 3)) (p_of e_int))) (p_of e_int))))
  ss_nil)
  (ss_cons (s_set (i := 7) sc__law_form.nd rfl (by first | exact Or.inl rfl | exact Or.inr rfl) (e_bin op_addA ok_add (p_of e_int) (p_of (e_bin op_mulA ok_mul (p_of (e_ix rfl (p_var (pv 2)) (p_of e_int) (fun _ _ => rfl))) (p_of (e_ix rfl (p_of (e_lst (a_cons (f_of e_int) (a_cons (f_of e_int) a_nil)))) (p_of (e_bin op_mod ok_mod (p_of (e_bin op_fdivX ok_fdivX (p_of (e_ix rfl (p_var (pv 2)) (p_of e_int) (fun _ _ => rfl))) (p_of e_int))) (p_of e_int))) (fun _ _ => rfl)))))))
  (ss_cons (s_set (i := 8) sc__law_form.nd rfl (by first | exact Or.inl rfl | exact Or.inr rfl) (e_bin op_addA ok_add (p_of e_int) (p_of (e_bin op_mod ok_mod (p_of (e_ix rfl (p_var (pv 2)) (p_of e_int) (fun _ _ => rfl))) (p_var (pv 7))))))
  (ss_cons (s_if (t_cmp (op_eqD hr.units) ok_eq (p_of (e_bin op_mod ok_mod (p_of (e_ix rfl (p_var (pv 2)) (p_of e_int) (fun _ _ => rfl))) (p_of e_int))) (p_of e_int) (nomark _))
  (ss_one (s_set (i := 8) sc__law_form.nd rfl (by first | exact Or.inl rfl | exact Or.inr rfl) (e_var (pv 7))))
  ss_nil)
  (ss_one (s_ret (e_tup (a_cons (f_of (e_var (pv 3))) (a_cons (f_of (e_var (pv 7))) (a_cons (f_of (e_var (pv 4))) (a_cons (f_of (e_bin op_addA ok_add (p_of e_int) (p_of (e_ix rfl (p_var (pv 2)) (p_of e_int) (fun _ _ => rfl))))) (a_cons (f_of (e_var (pv 5))) (a_cons (f_of (e_var (pv 6))) (a_cons (f_of (e_var (pv 8))) (a_cons (f_of (e_bin op_mulA ok_mul (p_of (e_ix rfl (p_var (pv 2)) (p_of e_int) (fun _ _ => rfl))) (p_of e_int))) (a_cons (f_of (e_ix rfl (p_var (pv 2)) (p_of e_int) (fun _ _ => rfl))) a_nil))))))))))))))))))))))
theorem b_is_whole (x : Fx P K mg) : Binds K x.d_is_whole ["value"] [] := x.F_is_whole.bindsN fun _ _ _ _ _ _ us hl => match us, hl with | [_], _ => rfl
theorem ok_is_whole (x : Fx P K mg) : FnOk P w K mg base (L2.CX P w) 1 x.a_is_whole x.d_is_whole ["value"] (spF K mg M_is_whole 1) := by
  refine ok_fun (He5.fun_of x.F_is_whole) sc_is_whole (by decide) fun cdv A outer s0 H E hr B F0 => ?_
  have po := passes_of (X := cxOf (L2.CX P w) P w K mg base N_is_whole "is_whole" (defScope s_is_whole) x.a_is_whole cdv A outer s0 H E) rfl
  have tk := takes_of (X := cxOf (L2.CX P w) P w K mg base N_is_whole "is_whole" (defScope s_is_whole) x.a_is_whole cdv A outer s0 H E) rfl rfl rfl rfl
  exact (ss_one (s_ret (v_and (e_isi (e_blt call_isi (ok_isi (by decide)) (by rfl) x.m_isinstance (by decide +kernel) (q_cons (p_var (pv 0)) (q_cons (p_ty .int (by rfl) x.m_int (by decide +kernel)) q_nil)))) (v_one (v_not (e_isi (e_blt call_isi (ok_isi (by decide)) (by rfl) x.m_isinstance (by decide +kernel) (q_cons (p_var (pv 0)) (q_cons (p_ty .bl (by rfl) x.m_bool (by decide +kernel)) q_nil)))))))))
theorem b_has_fields (x : Fx P K mg) : Binds K x.d_has_fields ["value"] [] := x.F_has_fields.bindsN fun _ _ _ _ _ _ us hl => match us, hl with | [_], _ => rfl
theorem ok_has_fields (x : Fx P K mg) : FnOk P w K mg base (L2.CX P w) 2 x.a_has_fields x.d_has_fields ["value"] (spF K mg M_has_fields 1) := by
  refine ok_fun (He5.fun_of x.F_has_fields) sc_has_fields (by decide) fun cdv A outer s0 H E hr B F0 => ?_
  have po := passes_of (X := cxOf (L2.CX P w) P w K mg base N_has_fields "has_fields" (defScope s_has_fields) x.a_has_fields cdv A outer s0 H E) rfl
  have tk := takes_of (X := cxOf (L2.CX P w) P w K mg base N_has_fields "has_fields" (defScope s_has_fields) x.a_has_fields cdv A outer s0 H E) rfl rfl rfl rfl
  exact (ss_cons (s_if (w_or (t_not (t_tru rfl (p_of (e_isi (e_blt call_isi (ok_isi (by decide)) (by rfl) x.m_isinstance (by decide +kernel) (q_cons (p_var (pv 0)) (q_cons (p_ty .tup (by rfl) x.m_tuple (by decide +kernel)) q_nil))))) (fun _ => by rfl))) (w_or1 (t_cmp (op_neD hr.units) ok_ne (p_of (e_blt op_lenA ok_len (by rfl) x.m_len (by decide +kernel) (q_cons (p_var (pv 0)) q_nil))) (p_of (e_blt op_lenA ok_len (by rfl) x.m_len (by decide +kernel) (q_cons (p_of (e_gdat (by rfl) x.t_FIELDS)) q_nil))) (nomark _)))).pt
  (ss_one (s_ret e_bl))
  ss_nil)
  (ss_one (s_ret (e_blt (cr_all rfl) ok_all (by rfl) x.m_all (by decide +kernel) (q_cons (p_of (e_lc (own := [("number", 1)] ) (E := (C1_has_fields)) rfl sc_has_fields.nd (j_src rfl (p_var (pv 0))) (blkOk_by (own := [("number", 1)]) (N := N_has_fields) (sc := defScope s_has_fields) (by decide +kernel)) (fun _ _ _ _ _ => (pg_name (i := 1) sc_has_fields.nd rfl (by first | exact Or.inl rfl | exact Or.inr rfl))) g_name (fun j h => h) (fun _ _ _ _ _ => x_nil) (fun _ _ _ _ _ => x_elt fun B => (f_of (v_and (e_call (ok_is_whole x) (hr.mono (by first | decide | omega)) rfl rfl tkB (fun ds h => runF_len ds h) (by rfl) x.g_is_whole x.F_is_whole.kp (b_is_whole x) (c_vw (pv 1) c_nil)) (v_one (e_chn op_leA op_leA ok_cmp ok_cmp (p_of e_int) (p_var (pv 1)) (p_of (e_gint (by rfl) x.c_MOST))))))))) q_nil)))))
theorem b_first_wrong (x : Fx P K mg) : Binds K x.d_first_wrong ["value"] [] := x.F_first_wrong.bindsN fun _ _ _ _ _ _ us hl => match us, hl with | [_], _ => rfl
theorem ok_first_wrong (x : Fx P K mg) : FnOk P w K mg base (L2.CX P w) 1 x.a_first_wrong x.d_first_wrong ["value"] (spF K mg M_first_wrong 1) := by
  refine ok_fun (He5.fun_of x.F_first_wrong) sc_first_wrong (by decide) fun cdv A outer s0 H E hr B F0 => ?_
  have po := passes_of (X := cxOf (L2.CX P w) P w K mg base N_first_wrong "first_wrong" (defScope s_first_wrong) x.a_first_wrong cdv A outer s0 H E) rfl
  have tk := takes_of (X := cxOf (L2.CX P w) P w K mg base N_first_wrong "first_wrong" (defScope s_first_wrong) x.a_first_wrong cdv A outer s0 H E) rfl rfl rfl rfl
  exact (ss_cons (s_wp (js := [0, 8]) (s_tg (f_of (e_var (pv 0))) (pg_tup rfl (pgs_cons (pg_name (i := 1) sc_first_wrong.nd rfl (by first | exact Or.inl rfl | exact Or.inr rfl)) (pgs_cons (pg_name (i := 2) sc_first_wrong.nd rfl (by first | exact Or.inl rfl | exact Or.inr rfl)) (pgs_cons (pg_name (i := 3) sc_first_wrong.nd rfl (by first | exact Or.inl rfl | exact Or.inr rfl)) (pgs_cons (pg_name (i := 4) sc_first_wrong.nd rfl (by first | exact Or.inl rfl | exact Or.inr rfl)) (pgs_cons (pg_name (i := 5) sc_first_wrong.nd rfl (by first | exact Or.inl rfl | exact Or.inr rfl)) (pgs_cons (pg_name (i := 6) sc_first_wrong.nd rfl (by first | exact Or.inl rfl | exact Or.inr rfl)) (pgs_cons (pg_name (i := 7) sc_first_wrong.nd rfl (by first | exact Or.inl rfl | exact Or.inr rfl)) (pgs_cons (pg_name (i := 8) sc_first_wrong.nd rfl (by first | exact Or.inl rfl | exact Or.inr rfl)) (pgs_cons (pg_name (i := 8) sc_first_wrong.nd rfl (by first | exact Or.inl rfl | exact Or.inr rfl)) pgs_nil)))))))))) (g_tup (g_cons g_name (g_cons g_name (g_cons g_name (g_cons g_name (g_cons g_name (g_cons g_name (g_cons g_name (g_cons g_name (g_cons g_name g_nil))))))))))))
  (ss_cons (s_wp (js := [1, 3, 4, 5, 6]) (s_set (i := 9) sc_first_wrong.nd rfl (by first | exact Or.inl rfl | exact Or.inr rfl) (e_lst (a_cons (f_of (e_cmp op_ltA ok_cmp (p_var (pv 1)) (p_of e_int) (nomark _))) (a_cons (f_of (e_cmp op_ltA ok_cmp (p_var (pv 2)) (p_of e_int) (nomark _))) (a_cons (f_of (e_cmp op_ltA ok_cmp (p_var (pv 3)) (p_of e_int) (nomark _))) (a_cons (f_of (e_cmp op_ltA ok_cmp (p_var (pv 4)) (p_of e_int) (nomark _))) (a_cons (f_of (e_cmp op_geA ok_cmp (p_var (pv 5)) (p_var (pv 3)) (nomark _))) (a_cons (f_of (e_cmp op_geA ok_cmp (p_of (e_bin op_mulA ok_mul (p_of e_int) (p_var (pv 6)))) (p_var (pv 1)) (nomark _))) a_nil)))))))))
  (ss_cons (s_wp (js := [2, 7]) (s_app rfl (pv 9) (f_of (v_not (e_chn op_leA op_leA ok_cmp ok_cmp (p_of e_int) (p_var (pv 7)) (p_var (pv 2)))))))
  (ss_cons (s_wp (js := [9]) (s_for (S1 := (L1_first_wrong)) po rfl (k_zipTA rfl (by rfl) x.m_zip (a_cons (f_of (e_gdat (by rfl) x.t_FIELDS)) (a_cons (f_of (e_var (pv 9))) a_nil))) (pg_tup rfl (pgs_cons (pg_name (i := 10) sc_first_wrong.nd rfl (by first | exact Or.inl rfl | exact Or.inr rfl)) (pgs_cons (pg_name (i := 11) sc_first_wrong.nd rfl (by first | exact Or.inl rfl | exact Or.inr rfl)) pgs_nil))) (g_tup (g_cons g_name (g_cons g_name g_nil))) fun F0 =>
  (ss_wp (js := [9, 10, 11]) (ss_one (s_if (t_tru rfl (p_var (pv 11)) (fun _ => by rfl))
  (ss_one (s_retV (pv 10)))
  ss_nil)))))
  (ss_one (s_ret e_non))))))
theorem b_check_form (x : Fx P K mg) : Binds K x.d_check_form ["value"] [] := x.F_check_form.bindsN fun _ _ _ _ _ _ us hl => match us, hl with | [_], _ => rfl
theorem ok_check_form (x : Fx P K mg) : FnOk P w K mg base (L2.CX P w) 3 x.a_check_form x.d_check_form ["value"] (spF K mg M_check_form 1) := by
  refine ok_fun (He5.fun_of x.F_check_form) sc_check_form (by decide) fun cdv A outer s0 H E hr B F0 => ?_
  have po := passes_of (X := cxOf (L2.CX P w) P w K mg base N_check_form "check_form" (defScope s_check_form) x.a_check_form cdv A outer s0 H E) rfl
  have tk := takes_of (X := cxOf (L2.CX P w) P w K mg base N_check_form "check_form" (defScope s_check_form) x.a_check_form cdv A outer s0 H E) rfl rfl rfl rfl
  exact (ss_cons (s_if (t_not (t_tru rfl (p_of (e_call (ok_has_fields x) (hr.mono (by first | decide | omega)) rfl rfl tk (fun ds h => runF_len ds h) (by rfl) x.g_has_fields x.F_has_fields.kp (b_has_fields x) (c_vw (pv 0) c_nil))) (fun _ => by rfl)))
  (ss_one (s_raiseF (x.x_BadForm w base (L2.CX P w)) (hr.mono (by first | decide | omega)) tk rfl rfl rfl (by rfl) (f_of (e_str (by kernel_rfl)))))
  ss_nil)
  (ss_cons (s_wp (js := [0]) (s_set (i := 1) sc_check_form.nd rfl (by first | exact Or.inl rfl | exact Or.inr rfl) (e_call (ok_first_wrong x) (hr.mono (by first | decide | omega)) rfl rfl tk (fun ds h => runF_len ds h) (by rfl) x.g_first_wrong x.F_first_wrong.kp (b_first_wrong x) (c_vw (pv 0) c_nil))))
  (ss_one (s_wp (js := [1]) (s_if (t_cmp op_isNotA ok_isNot (p_var (pv 1)) (p_of e_non) (nomark _))
  (ss_one (s_raiseF (x.x_BadForm w base (L2.CX P w)) (hr.mono (by first | decide | omega)) tk rfl rfl rfl (by rfl) (f_of (e_var (pv 1)))))
  ss_nil)))))
theorem b_is_form (x : Fx P K mg) : Binds K x.d_is_form ["value"] [] := x.F_is_form.bindsN fun _ _ _ _ _ _ us hl => match us, hl with | [_], _ => rfl
theorem ok_is_form (x : Fx P K mg) : FnOk P w K mg base (L2.CX P w) 3 x.a_is_form x.d_is_form ["value"] (spF K mg M_is_form 1) := by
  refine ok_fun (He5.fun_of x.F_is_form) sc_is_form (by decide) fun cdv A outer s0 H E hr B F0 => ?_
  have po := passes_of (X := cxOf (L2.CX P w) P w K mg base N_is_form "is_form" (defScope s_is_form) x.a_is_form cdv A outer s0 H E) rfl
  have tk := takes_of (X := cxOf (L2.CX P w) P w K mg base N_is_form "is_form" (defScope s_is_form) x.a_is_form cdv A outer s0 H E) rfl rfl rfl rfl
  exact (ss_one (s_ret (v_and (e_call (ok_has_fields x) (hr.mono (by first | decide | omega)) rfl rfl tk (fun ds h => runF_len ds h) (by rfl) x.g_has_fields x.F_has_fields.kp (b_has_fields x) (c_vw (pv 0) c_nil)) (v_one (e_cmp op_isA ok_is (p_of (e_call (ok_first_wrong x) (hr.mono (by first | decide | omega)) rfl rfl tk (fun ds h => runF_len ds h) (by rfl) x.g_first_wrong x.F_first_wrong.kp (b_first_wrong x) (c_vw (pv 0) c_nil))) (p_of e_non) (nomark _))))))
theorem b__law_changed (x : Fx P K mg) : Binds K x.d__law_changed ["form"] [] := x.F__law_changed.bindsN fun _ _ _ _ _ _ us hl => match us, hl with | [_], _ => rfl
theorem ok__law_changed (x : Fx P K mg) : FnOk P w K mg base (L2.CX P w) 1 x.a__law_changed x.d__law_changed ["form"] (spF K mg M__law_changed 1) := by
  refine ok_fun (He5.fun_of x.F__law_changed) sc__law_changed (by decide) fun cdv A outer s0 H E hr B F0 => ?_
  have po := passes_of (X := cxOf (L2.CX P w) P w K mg base N__law_changed "_law_changed" (defScope s__law_changed) x.a__law_changed cdv A outer s0 H E) rfl
  have tk := takes_of (X := cxOf (L2.CX P w) P w K mg base N__law_changed "_law_changed" (defScope s__law_changed) x.a__law_changed cdv A outer s0 H E) rfl rfl rfl rfl
  exact (ss_cons (s_set (i := 1) sc__law_changed.nd rfl (by first | exact Or.inl rfl | exact Or.inr rfl) (e_lst (a_cons (f_of e_non) (a_cons (f_of e_bl) (a_cons (f_of e_bl) (a_cons (f_of e_int) (a_cons (f_of e_int) (a_cons (f_of (e_str (by kernel_rfl))) (a_cons (f_of (e_tup a_nil)) (a_cons (f_of (e_lst a_nil)) (a_cons (f_of (e_typ (op_listA rfl) ok_listA (by rfl) x.m_list (by decide +kernel) (q_cons (p_var (pv 0)) q_nil))) (a_cons (f_of (e_sli rfl (p_var (pv 0)) o_no (o_in (p_of e_int)))) (a_cons (f_of (e_bin op_addA ok_add (p_var (pv 0)) (p_of (e_tup (a_cons (f_of e_int) a_nil))))) (a_cons (f_of (e_sli rfl (p_var (pv 0)) (o_in (p_of e_int)) o_no)) (a_cons (f_of (e_tup (a_cons (f_of (e_var (pv 0))) a_nil))) (a_cons (f_of (e_bin op_repT ok_mulT (p_of (e_tup (a_cons (f_of e_non) a_nil))) (p_of e_int))) (a_cons (f_of (e_str (by kernel_rfl))) a_nil)))))))))))))))))
  (ss_cons (s_for (S1 := (L3__law_changed)) po rfl (k_rng1 (by rfl) x.m_range (q_cons (p_of e_int) q_nil)) (pg_name (i := 2) sc__law_changed.nd rfl (by first | exact Or.inl rfl | exact Or.inr rfl)) g_name fun F0 =>
  (ss_wp (js := [2, 3]) (ss_cons (s_set (i := 3) sc__law_changed.nd rfl (by first | exact Or.inl rfl | exact Or.inr rfl) (e_lst (a_cons (f_of e_int) (a_cons (f_of e_int) (a_cons (f_of e_int) (a_cons (f_of e_int) (a_cons (f_of e_int) (a_cons (f_of (e_neg (p_of e_int))) (a_cons (f_of (e_bin op_pow ok_pow (p_of e_int) (p_of e_int))) (a_cons (f_of e_non) (a_cons (f_of e_bl) (a_cons (f_of e_bl) (a_cons (f_of (e_str (by kernel_rfl))) (a_cons (f_of (e_tup (a_cons (f_of e_int) a_nil))) (a_cons (f_of (e_bin op_addA ok_add (p_of (e_ix rfl (p_var (pv 0)) (p_var (pv 2)) (fun _ _ => rfl))) (p_of e_int))) (a_cons (f_of (e_bin op_sub ok_sub (p_of (e_ix rfl (p_var (pv 0)) (p_var (pv 2)) (fun _ _ => rfl))) (p_of e_int))) a_nil))))))))))))))))
  (ss_cons (s_for (S1 := (L1__law_changed)) po rfl (k_rng1 (by rfl) x.m_range (q_cons (p_of e_int) q_nil)) (pg_name (i := 4) sc__law_changed.nd rfl (by first | exact Or.inl rfl | exact Or.inr rfl)) g_name fun F0 =>
  (ss_wp (js := [4]) (ss_one (s_set (i := 3) sc__law_changed.nd rfl (by first | exact Or.inl rfl | exact Or.inr rfl) (e_bin op_addA ok_add (p_var (pv 3)) (p_of (e_lst (a_cons (f_of (e_ix rfl (p_var (pv 0)) (p_var (pv 4)) (fun _ _ => rfl))) (a_cons (f_of (e_bin op_addA ok_add (p_of (e_ix rfl (p_var (pv 0)) (p_var (pv 4)) (fun _ _ => rfl))) (p_of e_int))) (a_cons (f_of (e_bin op_sub ok_sub (p_of (e_ix rfl (p_var (pv 0)) (p_var (pv 4)) (fun _ _ => rfl))) (p_of e_int))) a_nil))))))))))
  (ss_cons (s_set (i := 3) sc__law_changed.nd rfl (by first | exact Or.inl rfl | exact Or.inr rfl) (e_bin op_addA ok_add (p_var (pv 3)) (p_of (e_lst (a_cons (f_of (e_bin op_mulA ok_mul (p_of e_int) (p_of (e_ix rfl (p_var (pv 0)) (p_of e_int) (fun _ _ => rfl))))) (a_cons (f_of (e_bin op_addA ok_add (p_of (e_bin op_mulA ok_mul (p_of e_int) (p_of (e_ix rfl (p_var (pv 0)) (p_of e_int) (fun _ _ => rfl))))) (p_of e_int))) (a_cons (f_of (e_bin op_fdivX ok_fdivX (p_of (e_bin op_addA ok_add (p_of (e_ix rfl (p_var (pv 0)) (p_of e_int) (fun _ _ => rfl))) (p_of e_int))) (p_of e_int))) (a_cons (f_of (e_bin op_fdivX ok_fdivX (p_of (e_ix rfl (p_var (pv 0)) (p_of e_int) (fun _ _ => rfl))) (p_of e_int))) a_nil))))))))
  (ss_one (s_for (S1 := (L2__law_changed)) po rfl (k_src rfl (f_of (e_var (pv 3)))) (pg_name (i := 5) sc__law_changed.nd rfl (by first | exact Or.inl rfl | exact Or.inr rfl)) g_name fun F0 =>
  (ss_wp (js := [3, 5]) (ss_one (s_app rfl (pv 1) (f_of (e_bin op_addA ok_add (p_of (e_bin op_addA ok_add (p_of (e_sli rfl (p_var (pv 0)) o_no (o_in (p_var (pv 2))))) (p_of (e_tup (a_cons (f_of (e_var (pv 5))) a_nil))))) (p_of (e_sli rfl (p_var (pv 0)) (o_in (p_of (e_bin op_addA ok_add (p_var (pv 2)) (p_of e_int)))) o_no))))))))))))))
  (ss_cons (s_wp (js := [0]) (s_for (S1 := (L5__law_changed)) po rfl (k_rng1 (by rfl) x.m_range (q_cons (p_of e_int) q_nil)) (pg_name (i := 2) sc__law_changed.nd rfl (by first | exact Or.inl rfl | exact Or.inr rfl)) g_name fun F0 =>
  (ss_wp (js := [2]) (ss_one (s_for (S1 := (L4__law_changed)) po rfl (k_rng2 (by rfl) x.m_range (q_cons (p_of (e_bin op_addA ok_add (p_var (pv 2)) (p_of e_int))) (q_cons (p_of e_int) q_nil))) (pg_name (i := 4) sc__law_changed.nd rfl (by first | exact Or.inl rfl | exact Or.inr rfl)) g_name fun F0 =>
  (ss_wp (js := [4]) (ss_cons (s_app rfl (pv 1) (f_of (e_bin op_addA ok_add (p_of (e_bin op_addA ok_add (p_of (e_bin op_addA ok_add (p_of (e_bin op_addA ok_add (p_of (e_sli rfl (p_var (pv 0)) o_no (o_in (p_var (pv 2))))) (p_of (e_tup (a_cons (f_of e_int) a_nil))))) (p_of (e_sli rfl (p_var (pv 0)) (o_in (p_of (e_bin op_addA ok_add (p_var (pv 2)) (p_of e_int)))) (o_in (p_var (pv 4))))))) (p_of (e_tup (a_cons (f_of e_int) a_nil))))) (p_of (e_sli rfl (p_var (pv 0)) (o_in (p_of (e_bin op_addA ok_add (p_var (pv 4)) (p_of e_int)))) o_no)))))
  (ss_cons (s_app rfl (pv 1) (f_of (e_bin op_addA ok_add (p_of (e_bin op_addA ok_add (p_of (e_bin op_addA ok_add (p_of (e_bin op_addA ok_add (p_of (e_sli rfl (p_var (pv 0)) o_no (o_in (p_var (pv 2))))) (p_of (e_tup (a_cons (f_of e_int) a_nil))))) (p_of (e_sli rfl (p_var (pv 0)) (o_in (p_of (e_bin op_addA ok_add (p_var (pv 2)) (p_of e_int)))) (o_in (p_var (pv 4))))))) (p_of (e_tup (a_cons (f_of e_int) a_nil))))) (p_of (e_sli rfl (p_var (pv 0)) (o_in (p_of (e_bin op_addA ok_add (p_var (pv 4)) (p_of e_int)))) o_no)))))
  (ss_one (s_app rfl (pv 1) (f_of (e_bin op_addA ok_add (p_of (e_bin op_addA ok_add (p_of (e_bin op_addA ok_add (p_of (e_bin op_addA ok_add (p_of (e_sli rfl (p_var (pv 0)) o_no (o_in (p_var (pv 2))))) (p_of (e_tup (a_cons (f_of e_int) a_nil))))) (p_of (e_sli rfl (p_var (pv 0)) (o_in (p_of (e_bin op_addA ok_add (p_var (pv 2)) (p_of e_int)))) (o_in (p_var (pv 4))))))) (p_of (e_tup (a_cons (f_of e_int) a_nil))))) (p_of (e_sli rfl (p_var (pv 0)) (o_in (p_of (e_bin op_addA ok_add (p_var (pv 4)) (p_of e_int)))) o_no))))))))))))))
  (ss_one (s_retV (pv 1))))))
theorem b__law_reason (x : Fx P K mg) : Binds K x.d__law_reason ["value"] [] := x.F__law_reason.bindsN fun _ _ _ _ _ _ us hl => match us, hl with | [_], _ => rfl
theorem ok__law_reason (x : Fx P K mg) : FnOk P w K mg base (L2.CX P w) 1 x.a__law_reason x.d__law_reason ["value"] (spF K mg M__law_reason 1) := by
  refine ok_fun (He5.fun_of x.F__law_reason) sc__law_reason (by decide) fun cdv A outer s0 H E hr B F0 => ?_
  have po := passes_of (X := cxOf (L2.CX P w) P w K mg base N__law_reason "_law_reason" (defScope s__law_reason) x.a__law_reason cdv A outer s0 H E) rfl
  have tk := takes_of (X := cxOf (L2.CX P w) P w K mg base N__law_reason "_law_reason" (defScope s__law_reason) x.a__law_reason cdv A outer s0 H E) rfl rfl rfl rfl
  exact (ss_cons (s_if (w_or (t_not (t_tru rfl (p_of (e_isi (e_blt call_isi (ok_isi (by decide)) (by rfl) x.m_isinstance (by decide +kernel) (q_cons (p_var (pv 0)) (q_cons (p_ty .tup (by rfl) x.m_tuple (by decide +kernel)) q_nil))))) (fun _ => by rfl))) (w_or1 (t_cmp (op_neD hr.units) ok_ne (p_of (e_blt op_lenA ok_len (by rfl) x.m_len (by decide +kernel) (q_cons (p_var (pv 0)) q_nil))) (p_of e_int) (nomark _)))).pt
  (ss_one (s_ret (e_str (by kernel_rfl))))
  ss_nil)
  (ss_cons (s_for (S1 := (L1__law_reason)) po rfl (k_src rfl (f_of (e_var (pv 0)))) (pg_name (i := 1) sc__law_reason.nd rfl (by first | exact Or.inl rfl | exact Or.inr rfl)) g_name fun F0 =>
  (ss_wp (js := [1]) (ss_one (s_if (w_or (t_not (t_tru rfl (p_of (e_isi (e_blt call_isi (ok_isi (by decide)) (by rfl) x.m_isinstance (by decide +kernel) (q_cons (p_var (pv 1)) (q_cons (p_ty .int (by rfl) x.m_int (by decide +kernel)) q_nil))))) (fun _ => by rfl))) (w_or (t_tru rfl (p_of (e_isi (e_blt call_isi (ok_isi (by decide)) (by rfl) x.m_isinstance (by decide +kernel) (q_cons (p_var (pv 1)) (q_cons (p_ty .bl (by rfl) x.m_bool (by decide +kernel)) q_nil))))) (fun _ => by rfl)) (w_or (t_cmp op_ltA ok_cmp (p_var (pv 1)) (p_of e_int) (nomark _)) (w_or1 (t_cmp op_gtA ok_cmp (p_var (pv 1)) (p_of e_int) (nomark _)))))).pt
  (ss_one (s_ret (e_str (by kernel_rfl))))
  ss_nil))))
  (ss_cons (s_for (S1 := (L2__law_reason)) po rfl (k_src rfl (f_of (e_lst (a_cons (f_of (e_tup (a_cons (f_of e_int) (a_cons (f_of (e_str (by kernel_rfl))) a_nil)))) (a_cons (f_of (e_tup (a_cons (f_of e_int) (a_cons (f_of (e_str (by kernel_rfl))) a_nil)))) (a_cons (f_of (e_tup (a_cons (f_of e_int) (a_cons (f_of (e_str (by kernel_rfl))) a_nil)))) (a_cons (f_of (e_tup (a_cons (f_of e_int) (a_cons (f_of (e_str (by kernel_rfl))) a_nil)))) a_nil))))))) (pg_name (i := 2) sc__law_reason.nd rfl (by first | exact Or.inl rfl | exact Or.inr rfl)) g_name fun F0 =>
  (ss_wp (js := [2]) (ss_one (s_if (t_cmp op_ltA ok_cmp (p_of (e_ix rfl (p_var (pv 0)) (p_of (e_ix rfl (p_var (pv 2)) (p_of e_int) (fun _ _ => rfl))) (fun _ _ => rfl))) (p_of e_int) (nomark _))
  (ss_one (s_ret (e_ix rfl (p_var (pv 2)) (p_of e_int) (fun _ _ => rfl))))
  ss_nil))))
  (ss_cons (s_if (t_cmp op_geA ok_cmp (p_of (e_ix rfl (p_var (pv 0)) (p_of e_int) (fun _ _ => rfl))) (p_of (e_ix rfl (p_var (pv 0)) (p_of e_int) (fun _ _ => rfl))) (nomark _))
  (ss_one (s_ret (e_str (by kernel_rfl))))
  ss_nil)
  (ss_cons (s_if (t_cmp op_geA ok_cmp (p_of (e_bin op_mulA ok_mul (p_of e_int) (p_of (e_ix rfl (p_var (pv 0)) (p_of e_int) (fun _ _ => rfl))))) (p_of (e_ix rfl (p_var (pv 0)) (p_of e_int) (fun _ _ => rfl))) (nomark _))
  (ss_one (s_ret (e_str (by kernel_rfl))))
  ss_nil)
  (ss_cons (s_wp (js := [0]) (s_if (w_or (t_cmp op_ltA ok_cmp (p_of (e_ix rfl (p_var (pv 0)) (p_of e_int) (fun _ _ => rfl))) (p_of e_int) (nomark _)) (w_or1 (t_cmp op_gtA ok_cmp (p_of (e_ix rfl (p_var (pv 0)) (p_of e_int) (fun _ _ => rfl))) (p_of (e_ix rfl (p_var (pv 0)) (p_of e_int) (fun _ _ => rfl))) (nomark _)))).pt
  (ss_one (s_ret (e_str (by kernel_rfl))))
  ss_nil))
  (ss_one (s_ret e_non))))))))
theorem b__law_same (x : Fx P K mg) : Binds K x.d__law_same ["told", "due"] [] := x.F__law_same.bindsN fun _ _ _ _ _ _ us hl => match us, hl with | [_, _], _ => rfl
theorem ok__law_same (x : Fx P K mg) : FnOk P w K mg base (L2.CX P w) 1 x.a__law_same x.d__law_same ["told", "due"] (spF K mg M__law_same 2) := by
  refine ok_fun (He5.fun_of x.F__law_same) sc__law_same (by decide) fun cdv A outer s0 H E hr B F0 => ?_
  have po := passes_of (X := cxOf (L2.CX P w) P w K mg base N__law_same "_law_same" (defScope s__law_same) x.a__law_same cdv A outer s0 H E) rfl
  have tk := takes_of (X := cxOf (L2.CX P w) P w K mg base N__law_same "_law_same" (defScope s__law_same) x.a__law_same cdv A outer s0 H E) rfl rfl rfl rfl
  exact (ss_cons (s_wp (js := [1]) (s_if (t_tru rfl (p_var (pv 1)) (fun _ => by rfl))
  (ss_one (s_ret (e_cmp op_isA ok_is (p_var (pv 0)) (p_of e_bl) (nomark _))))
  ss_nil))
  (ss_one (s_ret (e_cmp op_isA ok_is (p_var (pv 0)) (p_of e_bl) (nomark _)))))
theorem b_unindented (x : Fx P K mg) : Binds K x.d_unindented ["form"] [] := x.F_unindented.bindsN fun _ _ _ _ _ _ us hl => match us, hl with | [_], _ => rfl
theorem ok_unindented (x : Fx P K mg) : FnOk P w K mg base (L2.CX P w) 1 x.a_unindented x.d_unindented ["form"] (spF K mg M_unindented 1) := by
  refine ok_fun (He5.fun_of x.F_unindented) sc_unindented (by decide) fun cdv A outer s0 H E hr B F0 => ?_
  have po := passes_of (X := cxOf (L2.CX P w) P w K mg base N_unindented "unindented" (defScope s_unindented) x.a_unindented cdv A outer s0 H E) rfl
  have tk := takes_of (X := cxOf (L2.CX P w) P w K mg base N_unindented "unindented" (defScope s_unindented) x.a_unindented cdv A outer s0 H E) rfl rfl rfl rfl
  exact (ss_one (s_ret (e_bin op_addA ok_add (p_of (e_bin op_addA ok_add (p_of (e_sli rfl (p_var (pv 0)) o_no (o_in (p_of e_int)))) (p_of (e_tup (a_cons (f_of e_int) a_nil))))) (p_of (e_sli rfl (p_var (pv 0)) (o_in (p_of e_int)) o_no)))))
theorem b_with_width (x : Fx P K mg) : Binds K x.d_with_width ["form", "width"] [] := x.F_with_width.bindsN fun _ _ _ _ _ _ us hl => match us, hl with | [_, _], _ => rfl
theorem ok_with_width (x : Fx P K mg) : FnOk P w K mg base (L2.CX P w) 4 x.a_with_width x.d_with_width ["form", "width"] (spF K mg M_with_width 2) := by
  refine ok_fun (He5.fun_of x.F_with_width) sc_with_width (by decide) fun cdv A outer s0 H E hr B F0 => ?_
  have po := passes_of (X := cxOf (L2.CX P w) P w K mg base N_with_width "with_width" (defScope s_with_width) x.a_with_width cdv A outer s0 H E) rfl
  have tk := takes_of (X := cxOf (L2.CX P w) P w K mg base N_with_width "with_width" (defScope s_with_width) x.a_with_width cdv A outer s0 H E) rfl rfl rfl rfl
  exact (ss_cons (s_wp (js := [0, 1]) (s_set (i := 2) sc_with_width.nd rfl (by first | exact Or.inl rfl | exact Or.inr rfl) (e_bin op_addA ok_add (p_of (e_tup (a_cons (f_of (e_var (pv 1))) a_nil))) (p_of (e_sli rfl (p_of (e_call (ok_unindented x) (hr.mono (by first | decide | omega)) rfl rfl tk (fun ds h => runF_len ds h) (by rfl) x.g_unindented x.F_unindented.kp (b_unindented x) (c_vw (pv 0) c_nil))) (o_in (p_of e_int)) o_no)))))
  (ss_cons (s_drop (e_call (ok_check_form x) (hr.mono (by first | decide | omega)) rfl rfl tk (fun ds h => runF_len ds h) (by rfl) x.g_check_form x.F_check_form.kp (b_check_form x) (c_vw (pv 2) c_nil)))
  (ss_one (s_retV (pv 2)))))
theorem b__law_alike (x : Fx P K mg) : Binds K x.d__law_alike ["told", "due"] [] := x.F__law_alike.bindsN fun _ _ _ _ _ _ us hl => match us, hl with | [_, _], _ => rfl
theorem okC__law_alike (x : Fx P K mg) : FnC P w K mg base 1 x.a__law_alike x.d__law_alike ["told", "due"] M__law_alike__h 2 := by
  refine ok_funC (He5.fun_of x.F__law_alike) sc__law_alike (by decide) fun cdv A outer s0 H p hr B F0 => ?_
  exact (ss_cons (s_wp (js := [2]) (s_if (t_tru rfl (p_of (e_isi (e_blt call_isi (ok_isi (by decide)) (by rfl) x.m_isinstance (by decide +kernel) (q_cons (p_var (pv 1)) (q_cons (p_ty .tup (by rfl) x.m_tuple (by decide +kernel)) q_nil))))) (fun _ => by rfl))
  (ss_cons (s_if (w_or (t_not (t_tru rfl (p_of (e_isi (e_blt call_isi (ok_isi (by decide)) (by rfl) x.m_isinstance (by decide +kernel) (q_cons (p_var (pv 0)) (q_cons (p_ty .tup (by rfl) x.m_tuple (by decide +kernel)) q_nil))))) (fun _ => by rfl))) (w_or1 (t_cmp (op_neD hr.units) ok_ne (p_of (e_blt op_lenA ok_len (by rfl) x.m_len (by decide +kernel) (q_cons (p_var (pv 0)) q_nil))) (p_of (e_blt op_lenA ok_len (by rfl) x.m_len (by decide +kernel) (q_cons (p_var (pv 1)) q_nil))) (nomark _)))).pt
  (ss_one (s_ret e_bl))
  ss_nil)
  (ss_cons (s_wp (js := [0, 1]) s_bad)
  (ss_one (s_ret e_bl))))
  ss_nil))
  (ss_cons (s_wp (js := [2]) (s_if (t_tru rfl (p_of (e_isi (e_blt call_isi (ok_isi (by decide)) (by rfl) x.m_isinstance (by decide +kernel) (q_cons (p_var (pv 1)) (q_cons (p_ty .lst (by rfl) x.m_list (by decide +kernel)) q_nil))))) (fun _ => by rfl))
  (ss_cons (s_if (w_or (t_not (t_tru rfl (p_of (e_isi (e_blt call_isi (ok_isi (by decide)) (by rfl) x.m_isinstance (by decide +kernel) (q_cons (p_var (pv 0)) (q_cons (p_ty .lst (by rfl) x.m_list (by decide +kernel)) q_nil))))) (fun _ => by rfl))) (w_or1 (t_cmp (op_neD hr.units) ok_ne (p_of (e_blt op_lenA ok_len (by rfl) x.m_len (by decide +kernel) (q_cons (p_var (pv 0)) q_nil))) (p_of (e_blt op_lenA ok_len (by rfl) x.m_len (by decide +kernel) (q_cons (p_var (pv 1)) q_nil))) (nomark _)))).pt
  (ss_one (s_ret e_bl))
  ss_nil)
  (ss_cons (s_wp (js := [0, 1]) s_bad)
  (ss_one (s_ret e_bl))))
  ss_nil))
  (ss_cons (s_if (t_tru rfl (p_of (e_isi (e_blt call_isi (ok_isi (by decide)) (by rfl) x.m_isinstance (by decide +kernel) (q_cons (p_var (pv 1)) (q_cons (p_ty .str (by rfl) x.m_str (by decide +kernel)) q_nil))))) (fun _ => by rfl))
  (ss_one (s_ret (v_and (e_isi (e_blt call_isi (ok_isi (by decide)) (by rfl) x.m_isinstance (by decide +kernel) (q_cons (p_var (pv 0)) (q_cons (p_ty .str (by rfl) x.m_str (by decide +kernel)) q_nil)))) (v_one (e_cmp (op_eqD hr.units) ok_eq (p_var (pv 0)) (p_var (pv 1)) (nomark _))))))
  ss_nil)
  (ss_cons (s_if (t_cmp op_isA ok_is (p_var (pv 1)) (p_of e_non) (nomark _))
  (ss_one (s_ret (e_cmp op_isA ok_is (p_var (pv 0)) (p_of e_non) (nomark _))))
  ss_nil)
  (ss_cons (s_if (t_cmp op_isA ok_is (p_var (pv 1)) (p_of e_bl) (nomark _))
  (ss_one (s_ret (e_cmp op_isA ok_is (p_var (pv 0)) (p_of e_bl) (nomark _))))
  ss_nil)
  (ss_cons (s_if (t_cmp op_isA ok_is (p_var (pv 1)) (p_of e_bl) (nomark _))
  (ss_one (s_ret (e_cmp op_isA ok_is (p_var (pv 0)) (p_of e_bl) (nomark _))))
  ss_nil)
  (ss_one (s_ret (v_and (e_isi (e_blt call_isi (ok_isi (by decide)) (by rfl) x.m_isinstance (by decide +kernel) (q_cons (p_var (pv 0)) (q_cons (p_ty .int (by rfl) x.m_int (by decide +kernel)) q_nil)))) (v_and (v_not (e_isi (e_blt call_isi (ok_isi (by decide)) (by rfl) x.m_isinstance (by decide +kernel) (q_cons (p_var (pv 0)) (q_cons (p_ty .bl (by rfl) x.m_bool (by decide +kernel)) q_nil))))) (v_one (e_cmp (op_eqD hr.units) ok_eq (p_var (pv 0)) (p_var (pv 1)) (nomark _)))))))))))))
theorem ok__law_alike (x : Fx P K mg) : ∀ nn : Nat, FnOk P w K mg base (L2.CX P w) (1 + nn) x.a__law_alike x.d__law_alike ["told", "due"] (spF K mg (M__law_alike nn) 2) := by
  intro nn
  induction nn with
  | zero => exact fn_bad
  | succ nn ih =>
  refine ok_fun (k := 1 + nn) (S := S__law_alike (M__law_alike nn)) (He5.fun_of x.F__law_alike) sc__law_alike (by decide) fun cdv A outer s0 H E hr B F0 => ?_
  have po := passes_of (X := cxOf (L2.CX P w) P w K mg base N__law_alike "_law_alike" (defScope s__law_alike) x.a__law_alike cdv A outer s0 H E) rfl
  have tk := takes_of (X := cxOf (L2.CX P w) P w K mg base N__law_alike "_law_alike" (defScope s__law_alike) x.a__law_alike cdv A outer s0 H E) rfl rfl rfl rfl
  revert ih
  intro ih
  let g := M__law_alike nn
  exact (ss_cons (s_wp (js := [2]) (s_if (t_tru rfl (p_of (e_isi (e_blt call_isi (ok_isi (by decide)) (by rfl) x.m_isinstance (by decide +kernel) (q_cons (p_var (pv 1)) (q_cons (p_ty .tup (by rfl) x.m_tuple (by decide +kernel)) q_nil))))) (fun _ => by rfl))
  (ss_cons (s_if (w_or (t_not (t_tru rfl (p_of (e_isi (e_blt call_isi (ok_isi (by decide)) (by rfl) x.m_isinstance (by decide +kernel) (q_cons (p_var (pv 0)) (q_cons (p_ty .tup (by rfl) x.m_tuple (by decide +kernel)) q_nil))))) (fun _ => by rfl))) (w_or1 (t_cmp (op_neD hr.units) ok_ne (p_of (e_blt op_lenA ok_len (by rfl) x.m_len (by decide +kernel) (q_cons (p_var (pv 0)) q_nil))) (p_of (e_blt op_lenA ok_len (by rfl) x.m_len (by decide +kernel) (q_cons (p_var (pv 1)) q_nil))) (nomark _)))).pt
  (ss_one (s_ret e_bl))
  ss_nil)
  (ss_cons (s_wp (js := [0, 1]) (s_for (S1 := (L1__law_alike g)) po rfl (k_rng1 (by rfl) x.m_range (q_cons (p_of (e_blt op_lenA ok_len (by rfl) x.m_len (by decide +kernel) (q_cons (p_var (pv 1)) q_nil))) q_nil)) (pg_name (i := 2) sc__law_alike.nd rfl (by first | exact Or.inl rfl | exact Or.inr rfl)) g_name fun F0 =>
  (ss_wp (js := [2]) (ss_one (s_if (t_not (t_tru rfl (p_of (e_call ih (hr.mono (by omega)) rfl rfl tk (fun ds h => len__law_alike _ ds h) (by rfl) x.g__law_alike x.F__law_alike.kp (b__law_alike x) (c_val (f_of (e_ix rfl (p_var (pv 0)) (p_var (pv 2)) (fun _ _ => rfl))) (c_val (f_of (e_ix rfl (p_var (pv 1)) (p_var (pv 2)) (fun _ _ => rfl))) c_nil)))) (fun _ => by rfl)))
  (ss_one (s_ret e_bl))
  ss_nil)))))
  (ss_one (s_ret e_bl))))
  ss_nil))
  (ss_cons (s_wp (js := [2]) (s_if (t_tru rfl (p_of (e_isi (e_blt call_isi (ok_isi (by decide)) (by rfl) x.m_isinstance (by decide +kernel) (q_cons (p_var (pv 1)) (q_cons (p_ty .lst (by rfl) x.m_list (by decide +kernel)) q_nil))))) (fun _ => by rfl))
  (ss_cons (s_if (w_or (t_not (t_tru rfl (p_of (e_isi (e_blt call_isi (ok_isi (by decide)) (by rfl) x.m_isinstance (by decide +kernel) (q_cons (p_var (pv 0)) (q_cons (p_ty .lst (by rfl) x.m_list (by decide +kernel)) q_nil))))) (fun _ => by rfl))) (w_or1 (t_cmp (op_neD hr.units) ok_ne (p_of (e_blt op_lenA ok_len (by rfl) x.m_len (by decide +kernel) (q_cons (p_var (pv 0)) q_nil))) (p_of (e_blt op_lenA ok_len (by rfl) x.m_len (by decide +kernel) (q_cons (p_var (pv 1)) q_nil))) (nomark _)))).pt
  (ss_one (s_ret e_bl))
  ss_nil)
  (ss_cons (s_wp (js := [0, 1]) (s_for (S1 := (L2__law_alike g)) po rfl (k_rng1 (by rfl) x.m_range (q_cons (p_of (e_blt op_lenA ok_len (by rfl) x.m_len (by decide +kernel) (q_cons (p_var (pv 1)) q_nil))) q_nil)) (pg_name (i := 2) sc__law_alike.nd rfl (by first | exact Or.inl rfl | exact Or.inr rfl)) g_name fun F0 =>
  (ss_wp (js := [2]) (ss_one (s_if (t_not (t_tru rfl (p_of (e_call ih (hr.mono (by omega)) rfl rfl tk (fun ds h => len__law_alike _ ds h) (by rfl) x.g__law_alike x.F__law_alike.kp (b__law_alike x) (c_val (f_of (e_ix rfl (p_var (pv 0)) (p_var (pv 2)) (fun _ _ => rfl))) (c_val (f_of (e_ix rfl (p_var (pv 1)) (p_var (pv 2)) (fun _ _ => rfl))) c_nil)))) (fun _ => by rfl)))
  (ss_one (s_ret e_bl))
  ss_nil)))))
  (ss_one (s_ret e_bl))))
  ss_nil))
  (ss_cons (s_if (t_tru rfl (p_of (e_isi (e_blt call_isi (ok_isi (by decide)) (by rfl) x.m_isinstance (by decide +kernel) (q_cons (p_var (pv 1)) (q_cons (p_ty .str (by rfl) x.m_str (by decide +kernel)) q_nil))))) (fun _ => by rfl))
  (ss_one (s_ret (v_and (e_isi (e_blt call_isi (ok_isi (by decide)) (by rfl) x.m_isinstance (by decide +kernel) (q_cons (p_var (pv 0)) (q_cons (p_ty .str (by rfl) x.m_str (by decide +kernel)) q_nil)))) (v_one (e_cmp (op_eqD hr.units) ok_eq (p_var (pv 0)) (p_var (pv 1)) (nomark _))))))
  ss_nil)
  (ss_cons (s_if (t_cmp op_isA ok_is (p_var (pv 1)) (p_of e_non) (nomark _))
  (ss_one (s_ret (e_cmp op_isA ok_is (p_var (pv 0)) (p_of e_non) (nomark _))))
  ss_nil)
  (ss_cons (s_if (t_cmp op_isA ok_is (p_var (pv 1)) (p_of e_bl) (nomark _))
  (ss_one (s_ret (e_cmp op_isA ok_is (p_var (pv 0)) (p_of e_bl) (nomark _))))
  ss_nil)
  (ss_cons (s_if (t_cmp op_isA ok_is (p_var (pv 1)) (p_of e_bl) (nomark _))
  (ss_one (s_ret (e_cmp op_isA ok_is (p_var (pv 0)) (p_of e_bl) (nomark _))))
  ss_nil)
  (ss_one (s_ret (v_and (e_isi (e_blt call_isi (ok_isi (by decide)) (by rfl) x.m_isinstance (by decide +kernel) (q_cons (p_var (pv 0)) (q_cons (p_ty .int (by rfl) x.m_int (by decide +kernel)) q_nil)))) (v_and (v_not (e_isi (e_blt call_isi (ok_isi (by decide)) (by rfl) x.m_isinstance (by decide +kernel) (q_cons (p_var (pv 0)) (q_cons (p_ty .bl (by rfl) x.m_bool (by decide +kernel)) q_nil))))) (v_one (e_cmp (op_eqD hr.units) ok_eq (p_var (pv 0)) (p_var (pv 1)) (nomark _)))))))))))))
theorem b__law_refused (x : Fx P K mg) : Binds K x.d__law_refused ["value", "reason", "wide"] [] := x.F__law_refused.bindsN fun _ _ _ _ _ _ us hl => match us, hl with | [_, _, _], _ => rfl
theorem ok__law_refused (x : Fx P K mg) : FnOk P w K mg base (L2.CX P w) 14 x.a__law_refused x.d__law_refused ["value", "reason", "wide"] (spF K mg M__law_refused 3) := by
  refine ok_fun (He5.fun_of x.F__law_refused) sc__law_refused (by decide) fun cdv A outer s0 H E hr B F0 => ?_
  have po := passes_of (X := cxOf (L2.CX P w) P w K mg base N__law_refused "_law_refused" (defScope s__law_refused) x.a__law_refused cdv A outer s0 H E) rfl
  have tk := takes_of (X := cxOf (L2.CX P w) P w K mg base N__law_refused "_law_refused" (defScope s__law_refused) x.a__law_refused cdv A outer s0 H E) rfl rfl rfl rfl
  exact (ss_cons (s_wp (js := [0, 1, 2]) (s_try (B := (B1__law_refused)) (l := (H1__law_refused)) rfl sc__law_refused.nd tk (.named ⟨by rfl, by decide, .inl x.k_BadForm.1⟩ rfl rfl rfl (tabE_cons (ExP.one x.k_BadForm x.e_BadForm_BadForm) tabE_nil) (fun e F0 a oe cls dd pn hz hf hx => (ss_cons (s_wp (js := [0, 2]) (s_if (w_or (t_tru rfl (p_of (e_isEs (vs := [V.ref (He.ga K "BadBook"), V.ref (He.ga K "BadDeed")]) (cvs := [Value.ref (He.ga K "BadBook"), Value.ref (He.ga K "BadDeed")]) hz hf hx rfl (tabJ_cons (IsPs.of x.k_BadForm (any_no (kitP1 x.i_BadForm_BadBook) (any_no (kitP1 x.i_BadForm_BadDeed) any_nil))) tabJ_nil) (by rfl) x.m_isinstance (pv 3) (pa_cls (by rfl) x.k_BadBook.1 rfl (pa_cls (by rfl) x.k_BadDeed.1 rfl pa_none)) (.cons (.own _) (.cons (.own _) .nil)) (show (2 : Nat) ≤ sizeLine by decide) (by simp))) (fun _ => by rfl)) (w_or1 (t_tru rfl (p_of (e_isE (v := V.ref (He.ga K "BadFont")) hz hf hx rfl (tabI_cons (IsP.one x.k_BadForm x.i_BadForm_BadFont) tabI_nil) (by rfl) x.m_isinstance (pv 3) (pe_glob (by rfl) x.k_BadFont.1 rfl) (fun u h => h))) (fun _ => by rfl)))).pt
  (ss_one (s_ret e_bl))
  ss_nil))
  (ss_one (s_ret (v_and (e_isE (v := V.ref (He.ga K "InkError")) hz hf hx rfl (tabI_cons (IsP.one x.k_BadForm x.i_BadForm_InkError) tabI_nil) (by rfl) x.m_isinstance (pv 3) (pe_glob (by rfl) x.k_InkError.1 rfl) (fun u h => h)) (v_and (e_isE (v := V.ty "ValueError") hz hf hx rfl (tabI_cons (IsP.typ x.k_BadForm x.i_BadForm_ValueError) tabI_nil) (by rfl) x.m_isinstance (pv 3) (pe_bltn (v := .ty "ValueError") (by rfl) x.m_ValueError (by decide +kernel) rfl) (fun u h => h)) (v_one (e_callC (okC__law_alike x) (roomC (hr.mono (by first | decide | omega)) _) List.mem_cons_self rfl rfl (fun ds h => runF_len ds h) (by rfl) x.g__law_alike x.F__law_alike.kp (b__law_alike x) (c_val (f_of (e_fld hz hf hx rfl (tab_cons (XfP.of (x.x_BadForm w base (L2.CX P w))) tab_nil) (pv 3))) (c_vw (pv 1) c_nil)))))))))) (.plain ⟨by rfl, by decide, .inl x.k_InkError.1⟩ (tabE_cons (ExP.one x.k_BadForm x.e_BadForm_InkError) tabE_nil) (fun e F0 a oe cls dd pn hz hf hx => (ss_one (s_ret e_bl))) .nil)) (fun W tp pe tk po => (ss_one (s_if (t_cmp op_isA ok_is (p_var (pv 2)) (p_of e_non) (nomark _))
  (ss_one (s_drop (e_call (ok_check_form x) (hr.mono (by first | decide | omega)) rfl rfl tk (fun ds h => runF_len ds h) (by rfl) x.g_check_form x.F_check_form.kp (b_check_form x) (c_vw (pv 0) c_nil))))
  (ss_one (s_drop (e_call (ok_with_width x) (hr.mono (by first | decide | omega)) rfl rfl tk (fun ds h => runF_len ds h) (by rfl) x.g_with_width x.F_with_width.kp (b_with_width x) (c_vw (pv 0) (c_vw (pv 2) c_nil))))))))))
  (ss_one (s_ret e_bl)))
theorem b__law_checked (x : Fx P K mg) : Binds K x.d__law_checked ["value"] [] := x.F__law_checked.bindsN fun _ _ _ _ _ _ us hl => match us, hl with | [_], _ => rfl
theorem ok__law_checked (x : Fx P K mg) : FnOk P w K mg base (L2.CX P w) 15 x.a__law_checked x.d__law_checked ["value"] (spF K mg M__law_checked 1) := by
  refine ok_fun (He5.fun_of x.F__law_checked) sc__law_checked (by decide) fun cdv A outer s0 H E hr B F0 => ?_
  have po := passes_of (X := cxOf (L2.CX P w) P w K mg base N__law_checked "_law_checked" (defScope s__law_checked) x.a__law_checked cdv A outer s0 H E) rfl
  have tk := takes_of (X := cxOf (L2.CX P w) P w K mg base N__law_checked "_law_checked" (defScope s__law_checked) x.a__law_checked cdv A outer s0 H E) rfl rfl rfl rfl
  exact (ss_cons (s_set (i := 1) sc__law_checked.nd rfl (by first | exact Or.inl rfl | exact Or.inr rfl) (e_call (ok__law_reason x) (hr.mono (by first | decide | omega)) rfl rfl tk (fun ds h => runF_len ds h) (by rfl) x.g__law_reason x.F__law_reason.kp (b__law_reason x) (c_vw (pv 0) c_nil)))
  (ss_cons (s_if (t_not (t_tru rfl (p_of (e_call (ok__law_same x) (hr.mono (by first | decide | omega)) rfl rfl tk (fun ds h => runF_len ds h) (by rfl) x.g__law_same x.F__law_same.kp (b__law_same x) (c_val (f_of (e_call (ok_is_form x) (hr.mono (by first | decide | omega)) rfl rfl tk (fun ds h => runF_len ds h) (by rfl) x.g_is_form x.F_is_form.kp (b_is_form x) (c_vw (pv 0) c_nil))) (c_val (f_of (e_cmp op_isA ok_is (p_var (pv 1)) (p_of e_non) (nomark _))) c_nil)))) (fun _ => by rfl)))
  (ss_one (s_ret e_bl))
  ss_nil)
  (ss_cons (s_if (t_cmp op_isA ok_is (p_var (pv 1)) (p_of e_non) (nomark _))
  (ss_one (s_ret (e_cmp op_isA ok_is (p_of (e_call (ok_check_form x) (hr.mono (by first | decide | omega)) rfl rfl tk (fun ds h => runF_len ds h) (by rfl) x.g_check_form x.F_check_form.kp (b_check_form x) (c_vw (pv 0) c_nil))) (p_of e_non) (nomark _))))
  ss_nil)
  (ss_one (s_ret (e_call (ok__law_refused x) (hr.mono (by first | decide | omega)) rfl rfl tk (fun ds h => runF_len ds h) (by rfl) x.g__law_refused x.F__law_refused.kp (b__law_refused x) (c_vw (pv 0) (c_vw (pv 1) (c_val (f_of e_non) c_nil)))))))))
theorem b_quoted (x : Fx P K mg) : Binds K x.d_quoted ["form"] [] := x.F_quoted.bindsN fun _ _ _ _ _ _ us hl => match us, hl with | [_], _ => rfl
theorem ok_quoted (x : Fx P K mg) : FnOk P w K mg base (L2.CX P w) 2 x.a_quoted x.d_quoted ["form"] (spF K mg M_quoted 1) := by
  refine ok_fun (He5.fun_of x.F_quoted) sc_quoted (by decide) fun cdv A outer s0 H E hr B F0 => ?_
  have po := passes_of (X := cxOf (L2.CX P w) P w K mg base N_quoted "quoted" (defScope s_quoted) x.a_quoted cdv A outer s0 H E) rfl
  have tk := takes_of (X := cxOf (L2.CX P w) P w K mg base N_quoted "quoted" (defScope s_quoted) x.a_quoted cdv A outer s0 H E) rfl rfl rfl rfl
  exact (ss_one (s_ret (e_bin op_addA ok_add (p_of (e_tup (a_cons (f_of (e_bin op_sub ok_sub (p_of (e_ix rfl (p_var (pv 0)) (p_of e_int) (fun _ _ => rfl))) (p_of (e_bin op_mulA ok_mul (p_of e_int) (p_of (e_ix rfl (p_var (pv 0)) (p_of e_int) (fun _ _ => rfl))))))) a_nil))) (p_of (e_sli rfl (p_of (e_call (ok_unindented x) (hr.mono (by first | decide | omega)) rfl rfl tk (fun ds h => runF_len ds h) (by rfl) x.g_unindented x.F_unindented.kp (b_unindented x) (c_vw (pv 0) c_nil))) (o_in (p_of e_int)) o_no)))))
theorem b_law (x : Fx P K mg) : Binds K x.d_law ["script"] [] := x.F_law.bindsN fun _ _ _ _ _ _ us hl => match us, hl with | [_], _ => rfl
theorem ok_law (x : Fx P K mg) : FnOk P w K mg base (L2.CX P w) 16 x.a_law x.d_law ["script"] (spF K mg M_law 1) := by
  refine ok_fun (He5.fun_of x.F_law) sc_law (by decide) fun cdv A outer s0 H E hr B F0 => ?_
  have po := passes_of (X := cxOf (L2.CX P w) P w K mg base N_law "law" (defScope s_law) x.a_law cdv A outer s0 H E) rfl
  have tk := takes_of (X := cxOf (L2.CX P w) P w K mg base N_law "law" (defScope s_law) x.a_law cdv A outer s0 H E) rfl rfl rfl rfl
  exact (ss_cons (s_set (i := 1) sc_law.nd rfl (by first | exact Or.inl rfl | exact Or.inr rfl) (e_call (ok__law_form x) (hr.mono (by first | decide | omega)) rfl rfl tk (fun ds h => runF_len ds h) (by rfl) x.g__law_form x.F__law_form.kp (b__law_form x) (c_vw (pv 0) (c_val (f_of e_int) c_nil))))
  (ss_cons (s_if (w_or (t_cmp op_isNotA ok_isNot (p_of (e_call (ok_check_form x) (hr.mono (by first | decide | omega)) rfl rfl tk (fun ds h => runF_len ds h) (by rfl) x.g_check_form x.F_check_form.kp (b_check_form x) (c_vw (pv 1) c_nil))) (p_of e_non) (nomark _)) (w_or1 (t_cmp op_isNotA ok_isNot (p_of (e_call (ok_is_form x) (hr.mono (by first | decide | omega)) rfl rfl tk (fun ds h => runF_len ds h) (by rfl) x.g_is_form x.F_is_form.kp (b_is_form x) (c_vw (pv 1) c_nil))) (p_of e_bl) (nomark _)))).pt
  (ss_one (s_ret e_bl))
  ss_nil)
  (ss_cons (s_for (S1 := (L1_law)) po rfl (k_src rfl (f_of (e_call (ok__law_changed x) (hr.mono (by first | decide | omega)) rfl rfl tk (fun ds h => runF_len ds h) (by rfl) x.g__law_changed x.F__law_changed.kp (b__law_changed x) (c_vw (pv 1) c_nil)))) (pg_name (i := 2) sc_law.nd rfl (by first | exact Or.inl rfl | exact Or.inr rfl)) g_name fun F0 =>
  (ss_wp (js := [2]) (ss_one (s_if (t_not (t_tru rfl (p_of (e_call (ok__law_checked x) (hr.mono (by first | decide | omega)) rfl rfl tk (fun ds h => runF_len ds h) (by rfl) x.g__law_checked x.F__law_checked.kp (b__law_checked x) (c_vw (pv 2) c_nil))) (fun _ => by rfl)))
  (ss_one (s_ret e_bl))
  ss_nil))))
  (ss_cons (s_wp (js := [0]) (s_for (S1 := (L2_law)) po rfl (k_src rfl (f_of (e_lst (a_cons (f_of e_int) (a_cons (f_of e_int) (a_cons (f_of (e_bin op_addA ok_add (p_of (e_ix rfl (p_var (pv 1)) (p_of e_int) (fun _ _ => rfl))) (p_of e_int))) (a_cons (f_of e_int) (a_cons (f_of e_int) (a_cons (f_of (e_neg (p_of e_int))) (a_cons (f_of (e_bin op_mulA ok_mul (p_of e_int) (p_of (e_ix rfl (p_var (pv 1)) (p_of e_int) (fun _ _ => rfl))))) (a_cons (f_of (e_bin op_mulA ok_mul (p_of (e_ix rfl (p_of (e_call (ok__law_numbers x) (hr.mono (by first | decide | omega)) rfl rfl tk (fun ds h => runF_len ds h) (by rfl) x.g__law_numbers x.F__law_numbers.kp (b__law_numbers x) (c_vw (pv 0) (c_val (f_of e_int) (c_val (f_of e_int) c_nil))))) (p_of e_int) (fun _ _ => rfl))) (p_of e_int))) a_nil))))))))))) (pg_name (i := 3) sc_law.nd rfl (by first | exact Or.inl rfl | exact Or.inr rfl)) g_name fun F0 =>
  (ss_wp (js := [3, 4, 5]) (ss_cons (s_wp (js := [0]) (s_set (i := 4) sc_law.nd rfl (by first | exact Or.inl rfl | exact Or.inr rfl) (e_bin op_addA ok_add (p_of (e_bin op_addA ok_add (p_of (e_bin op_addA ok_add (p_of (e_tup (a_cons (f_of (e_var (pv 3))) a_nil))) (p_of (e_sli rfl (p_var (pv 1)) (o_in (p_of e_int)) (o_in (p_of e_int)))))) (p_of (e_tup (a_cons (f_of e_int) a_nil))))) (p_of (e_sli rfl (p_var (pv 1)) (o_in (p_of e_int)) o_no)))))
  (ss_cons (s_set (i := 5) sc_law.nd rfl (by first | exact Or.inl rfl | exact Or.inr rfl) (e_call (ok__law_reason x) (hr.mono (by first | decide | omega)) rfl rfl tk (fun ds h => runF_len ds h) (by rfl) x.g__law_reason x.F__law_reason.kp (b__law_reason x) (c_vw (pv 4) c_nil)))
  (ss_one (s_if (t_cmp op_isA ok_is (p_var (pv 5)) (p_of e_non) (nomark _))
  (ss_one (s_if (t_not (t_tru rfl (p_of (e_call (ok__law_alike x 12) (hr.mono (by first | decide | omega)) rfl rfl tk (fun ds h => len__law_alike _ ds h) (by rfl) x.g__law_alike x.F__law_alike.kp (b__law_alike x) (c_val (f_of (e_call (ok_with_width x) (hr.mono (by first | decide | omega)) rfl rfl tk (fun ds h => runF_len ds h) (by rfl) x.g_with_width x.F_with_width.kp (b_with_width x) (c_vw (pv 1) (c_vw (pv 3) c_nil)))) (c_vw (pv 4) c_nil)))) (fun _ => by rfl)))
  (ss_one (s_ret e_bl))
  ss_nil))
  (ss_one (s_if (t_not (t_tru rfl (p_of (e_call (ok__law_refused x) (hr.mono (by first | decide | omega)) rfl rfl tk (fun ds h => runF_len ds h) (by rfl) x.g__law_refused x.F__law_refused.kp (b__law_refused x) (c_vw (pv 1) (c_vw (pv 5) (c_vw (pv 3) c_nil))))) (fun _ => by rfl)))
  (ss_one (s_ret e_bl))
  ss_nil)))))))))
  (ss_cons (s_if (t_not (t_tru rfl (p_of (e_call (ok__law_alike x 12) (hr.mono (by first | decide | omega)) rfl rfl tk (fun ds h => len__law_alike _ ds h) (by rfl) x.g__law_alike x.F__law_alike.kp (b__law_alike x) (c_val (f_of (e_call (ok_unindented x) (hr.mono (by first | decide | omega)) rfl rfl tk (fun ds h => runF_len ds h) (by rfl) x.g_unindented x.F_unindented.kp (b_unindented x) (c_vw (pv 1) c_nil))) (c_val (f_of (e_bin op_addA ok_add (p_of (e_bin op_addA ok_add (p_of (e_sli rfl (p_var (pv 1)) o_no (o_in (p_of e_int)))) (p_of (e_tup (a_cons (f_of e_int) a_nil))))) (p_of (e_sli rfl (p_var (pv 1)) (o_in (p_of e_int)) o_no)))) c_nil)))) (fun _ => by rfl)))
  (ss_one (s_ret e_bl))
  ss_nil)
  (ss_cons (s_set (i := 4) sc_law.nd rfl (by first | exact Or.inl rfl | exact Or.inr rfl) (e_bin op_addA ok_add (p_of (e_bin op_addA ok_add (p_of (e_bin op_addA ok_add (p_of (e_tup (a_cons (f_of (e_bin op_sub ok_sub (p_of (e_ix rfl (p_var (pv 1)) (p_of e_int) (fun _ _ => rfl))) (p_of (e_bin op_mulA ok_mul (p_of e_int) (p_of (e_ix rfl (p_var (pv 1)) (p_of e_int) (fun _ _ => rfl))))))) a_nil))) (p_of (e_sli rfl (p_var (pv 1)) (o_in (p_of e_int)) (o_in (p_of e_int)))))) (p_of (e_tup (a_cons (f_of e_int) a_nil))))) (p_of (e_sli rfl (p_var (pv 1)) (o_in (p_of e_int)) o_no))))
  (ss_one (s_ret (v_and (e_call (ok__law_alike x 12) (hr.mono (by first | decide | omega)) rfl rfl tk (fun ds h => len__law_alike _ ds h) (by rfl) x.g__law_alike x.F__law_alike.kp (b__law_alike x) (c_val (f_of (e_call (ok_quoted x) (hr.mono (by first | decide | omega)) rfl rfl tk (fun ds h => runF_len ds h) (by rfl) x.g_quoted x.F_quoted.kp (b_quoted x) (c_vw (pv 1) c_nil))) (c_vw (pv 4) c_nil))) (v_and (e_call (ok__law_alike x 12) (hr.mono (by first | decide | omega)) rfl rfl tk (fun ds h => len__law_alike _ ds h) (by rfl) x.g__law_alike x.F__law_alike.kp (b__law_alike x) (c_val (f_of (e_call (ok_quoted x) (hr.mono (by first | decide | omega)) rfl rfl tk (fun ds h => runF_len ds h) (by rfl) x.g_quoted x.F_quoted.kp (b_quoted x) (c_vw (pv 4) c_nil))) (c_vw (pv 4) c_nil))) (v_one (e_call (ok__law_alike x 12) (hr.mono (by first | decide | omega)) rfl rfl tk (fun ds h => len__law_alike _ ds h) (by rfl) x.g__law_alike x.F__law_alike.kp (b__law_alike x) (c_val (f_of (e_call (ok_unindented x) (hr.mono (by first | decide | omega)) rfl rfl tk (fun ds h => runF_len ds h) (by rfl) x.g_unindented x.F_unindented.kp (b_unindented x) (c_vw (pv 4) c_nil))) (c_vw (pv 4) c_nil))))))))))))))
end
end LawW
namespace LawW
open PySem L2 PM
theorem sl_eq : (sizeLine : Nat) = 16777216 := rfl
/-- the numbers that the law draws from -/
structure Nums (n : Nat) (l : List Int) : Prop where
  len : l.length = n
  rng : ∀ x ∈ l, 0 ≤ x ∧ x < 1009
theorem Nums.at {n : Nat} {l : List Int} (h : Nums n l) {i : Int} (h0 : 0 ≤ i) (h1 : i < n) : ∃ x, atI (l.map D.int) i = some (.int x) ∧ 0 ≤ x ∧ x < 1009 := by
  have hi : i.toNat < l.length := by rw [h.len]; omega
  refine ⟨l[i.toNat], ?_, h.rng _ (List.getElem_mem hi)⟩
  rw [atI_int h0 (by rw [List.length_map, h.len]; omega), List.getElem?_map, List.getElem?_eq_getElem hi]
  rfl
theorem nums_loop : ∀ (ds : List D) (cell : Int) (acc : List Int) (x1 : Int) (x0 x2 x5 x6 : Option Slot), (∀ d ∈ ds, ∃ k : Int, d = .int k ∧ 0 ≤ k ∧ k < 1000) → 0 ≤ cell → 0 ≤ x1 → x1 < 1000 → acc.length + ds.length ≤ 1000 →
    ∃ cell' l x2' x5' x6', forF (tgN 5) L1__law_numbers ds [x0, some (false, .int x1), x2, some (false, .int cell), some (true, .lst (acc.map D.int)), x5, x6] =
      .nx [x0, some (false, .int x1), x2', some (false, .int cell'), some (true, .lst ((acc ++ l).map D.int)), x5', x6'] ∧ l.length = ds.length ∧ ∀ x ∈ l, 0 ≤ x ∧ x < 1009
  | [], cell, acc, x1, x0, x2, x5, x6, _, _, _, _, _ => ⟨cell, [], x2, x5, x6, by rw [for_nil, List.append_nil], rfl, by simp⟩
  | d :: ds, cell, acc, x1, x0, x2, x5, x6, hd, hc, h1, h2, hl => by
    obtain ⟨k, rfl, k0, k1⟩ := hd d List.mem_cons_self
    have hd' : ∀ d ∈ ds, ∃ k : Int, d = .int k ∧ 0 ≤ k ∧ k < 1000 := fun d h => hd d (List.mem_cons_of_mem _ h)
    have hsz : (acc.map D.int).length < sizeLine := by rw [sl_eq, List.length_map]; rw [List.length_cons] at hl; omega
    have hpw : (0 : Int) ≤ 18 ∧ (18 : Int) ≤ 1000000 ∧ (10 : Int).natAbs < 2 ^ 64 := by decide
    have hpv : (10 : Int) ^ (18 : Int).toNat = 1000000000000000000 := by decide
    have mk : ∀ (c' y : Int) (x2' x5' x6' : Option Slot), 0 ≤ c' → 0 ≤ y → y < 1009 → L1__law_numbers [x0, some (false, .int x1), x2, some (false, .int cell), some (true, .lst (acc.map D.int)), some (false, .int k), x6] =
        .nx [x0, some (false, .int x1), x2', some (false, .int c'), some (true, .lst ((acc ++ [y]).map D.int)), x5', x6'] →
        ∃ cell' l x2' x5' x6', forF (tgN 5) L1__law_numbers (.int k :: ds) [x0, some (false, .int x1), x2, some (false, .int cell), some (true, .lst (acc.map D.int)), x5, x6] =
      .nx [x0, some (false, .int x1), x2', some (false, .int cell'), some (true, .lst ((acc ++ l).map D.int)), x5', x6'] ∧ l.length = (D.int k :: ds).length ∧ ∀ x ∈ l, 0 ≤ x ∧ x < 1009 := fun c' y x2' x5' x6' hc' hy hy2 hb => by
      obtain ⟨cell', l, x2'', x5'', x6'', e, e2, e3⟩ := nums_loop ds c' (acc ++ [y]) x1 x0 x2' x5' x6' hd' hc' h1 h2 (by simp at hl ⊢; omega)
      refine ⟨cell', y :: l, x2'', x5'', x6'', ?_, by rw [List.length_cons, List.length_cons, e2], fun x hx => ?_⟩
      · rw [for_go (ρ1 := [x0, some (false, .int x1), x2, some (false, .int cell), some (true, .lst (acc.map D.int)), some (false, .int k), x6]) rfl hb, e, List.append_assoc]
        rfl
      · rcases List.mem_cons.mp hx with rfl | hx
        · exact ⟨hy, hy2⟩
        · exact e3 x hx
    by_cases hb : (1000000000000000000 : Int) ≤ cell
    · refine mk (cell / 1009) (cell % 1009) none none none (by omega) (by omega) (by omega) ?_
      have hsz2 : acc.length < sizeLine := by simpa using hsz
      simp only [L1__law_numbers, PM.tgT, PM.tgs, PM.callE, PM.runF, PM.initE, PM.seqS, PM.asgS, PM.tgS, PM.parS, PM.appS, PM.augS, PM.dropS, PM.retS, PM.retN, PM.retV, PM.ifS, PM.forS, PM.M.thenS, PM.M.bind, PM.M.lift, PM.ret, PM.cst, PM.var, PM.pvar, PM.pk, PM.bin, PM.asB, PM.truth, PM.tru, PM.tand, PM.tor, PM.tnot, PM.vand, PM.vor, PM.vnot, PM.iff, PM.sli, PM.ono, PM.oin, PM.acons, PM.anil, PM.cnil, PM.cval, PM.cvw, PM.lstE, PM.tupE, PM.blt, PM.isi, PM.una, PM.smE, PM.src, PM.rng1, PM.rng2, PM.skip, PM.brkS, PM.cntS, PM.tgN, PM.itemsD, PM.tyD, PM.Ty.sub, PM.addD, PM.addIA, PM.subD, PM.mulD, PM.mulID, PM.fdivD, PM.modD, PM.powD, PM.ltD, PM.leD, PM.gtD, PM.geD, PM.cmpD, PM.eqD, PM.neD, PM.ixD, PM.sliceD, PM.lenD, PM.intD, PM.strD, PM.listD, PM.tupD, PM.joinD, PM.rjustD, PM.negD, List.length_cons, List.length_nil, List.getElem?_cons_zero, List.getElem?_cons_succ, List.set_cons_zero, List.set_cons_succ, List.map_cons, List.map_nil, List.cons_append, List.nil_append, List.append_nil, List.replicate, List.length_map, List.length_append, if_true, if_false, ite_true, ite_false, reduceIte, Bool.false_eq_true, decide_eq_true_eq, Option.map_some, Option.map_none, Option.bind_some, Option.bind_none, Option.some.injEq, Option.join, List.isEmpty_cons, List.isEmpty_nil, List.all_cons, List.all_nil, PM.owned, PM.noLS, PM.noL, PM.noLs, Bool.or_true, Bool.true_or, Bool.or_false, Bool.false_or, Bool.and_true, Bool.true_and, Bool.and_false, Bool.false_and, Bool.not_true, Bool.not_false, List.isEmpty_map, PM.setS, PM.augIxS, PM.isD, PM.isNonD, PM.isBlD, PM.isNotD, PM.sumD, PM.allD, PM.anyD, PM.absD, PM.gcdD, PM.bitsD, PM.maxD, PM.minD, reduceCtorEq, decide_true, decide_false, eq_self, Nat.zero_add, Nat.reduceAdd, Nat.reduceSub, Nat.reduceLT, Nat.reduceEqDiff, PM.wpS, PM.wipeE, PM.chn, PM.extS, PM.enumA, PM.zipA, PM.zipTA, PM.intA, hpw, hpv, decide_eq_true hb, show (0 : Int) < 1009 by decide, show (1009 : Int).natAbs.log2 < 9000 by decide, and_self, hsz2, List.map_append]
    · have hsz2 : acc.length < sizeLine := by simpa using hsz
      have m1 : mulOk cell 48271 = true := mulOk_r (by decide) (by decide)
      have m2 : mulOk (k + 1) 69621 = true := mulOk_r (by decide) (by decide)
      have m3 : mulOk x1 4001 = true := mulOk_r (by decide) (by decide)
      have m5 : mulOk 16807 (k + 3) = true := mulOk_l (by decide) (by decide)
      have p1 := Int.emod_nonneg (cell * 48271 + (k + 1) * 69621 + x1 * 4001) (show (2147483647 : Int) ≠ 0 by decide)
      have p2 := Int.emod_lt_of_pos (cell * 48271 + (k + 1) * 69621 + x1 * 4001) (show (0 : Int) < 2147483647 by decide)
      generalize hm : (cell * 48271 + (k + 1) * 69621 + x1 * 4001) % 2147483647 = mm at p1 p2
      have m4 : mulOk mm mm = true := mulOk_l (by omega) (by omega)
      have p3 := Int.emod_nonneg (mm * mm + 16807 * (k + 3)) (show (2147483629 : Int) ≠ 0 by decide)
      generalize hq : (mm * mm + 16807 * (k + 3)) % 2147483629 = qq at p3
      refine mk cell (qq / 7 % 1009) none none none hc (by omega) (by omega) ?_
      simp only [L1__law_numbers, PM.tgT, PM.tgs, PM.callE, PM.runF, PM.initE, PM.seqS, PM.asgS, PM.tgS, PM.parS, PM.appS, PM.augS, PM.dropS, PM.retS, PM.retN, PM.retV, PM.ifS, PM.forS, PM.M.thenS, PM.M.bind, PM.M.lift, PM.ret, PM.cst, PM.var, PM.pvar, PM.pk, PM.bin, PM.asB, PM.truth, PM.tru, PM.tand, PM.tor, PM.tnot, PM.vand, PM.vor, PM.vnot, PM.iff, PM.sli, PM.ono, PM.oin, PM.acons, PM.anil, PM.cnil, PM.cval, PM.cvw, PM.lstE, PM.tupE, PM.blt, PM.isi, PM.una, PM.smE, PM.src, PM.rng1, PM.rng2, PM.skip, PM.brkS, PM.cntS, PM.tgN, PM.itemsD, PM.tyD, PM.Ty.sub, PM.addD, PM.addIA, PM.subD, PM.mulD, PM.mulID, PM.fdivD, PM.modD, PM.powD, PM.ltD, PM.leD, PM.gtD, PM.geD, PM.cmpD, PM.eqD, PM.neD, PM.ixD, PM.sliceD, PM.lenD, PM.intD, PM.strD, PM.listD, PM.tupD, PM.joinD, PM.rjustD, PM.negD, List.length_cons, List.length_nil, List.getElem?_cons_zero, List.getElem?_cons_succ, List.set_cons_zero, List.set_cons_succ, List.map_cons, List.map_nil, List.cons_append, List.nil_append, List.append_nil, List.replicate, List.length_map, List.length_append, if_true, if_false, ite_true, ite_false, reduceIte, Bool.false_eq_true, decide_eq_true_eq, Option.map_some, Option.map_none, Option.bind_some, Option.bind_none, Option.some.injEq, Option.join, List.isEmpty_cons, List.isEmpty_nil, List.all_cons, List.all_nil, PM.owned, PM.noLS, PM.noL, PM.noLs, Bool.or_true, Bool.true_or, Bool.or_false, Bool.false_or, Bool.and_true, Bool.true_and, Bool.and_false, Bool.false_and, Bool.not_true, Bool.not_false, List.isEmpty_map, PM.setS, PM.augIxS, PM.isD, PM.isNonD, PM.isBlD, PM.isNotD, PM.sumD, PM.allD, PM.anyD, PM.absD, PM.gcdD, PM.bitsD, PM.maxD, PM.minD, reduceCtorEq, decide_true, decide_false, eq_self, Nat.zero_add, Nat.reduceAdd, Nat.reduceSub, Nat.reduceLT, Nat.reduceEqDiff, PM.wpS, PM.wipeE, PM.chn, PM.extS, PM.enumA, PM.zipA, PM.zipTA, PM.intA, hpw, hpv, decide_eq_false hb, m1, m2, m3, m5, hm, m4, hq, show (0 : Int) < 1009 by decide, show (0 : Int) < 2147483647 by decide, show (0 : Int) < 2147483629 by decide, show (0 : Int) < 7 by decide, show (7 : Int).natAbs.log2 < 9000 by decide, and_self, hsz2, List.map_append]
theorem intsR_in {n : Nat} (h : n ≤ 1000) : ∀ d ∈ intsR 0 n, ∃ k : Int, d = .int k ∧ 0 ≤ k ∧ k < 1000 := fun d hd => by
  unfold intsR at hd
  obtain ⟨i, hi, rfl⟩ := List.mem_map.mp hd
  have := List.mem_range.mp hi
  exact ⟨_, rfl, by omega, by omega⟩
theorem numbers_ok (ns : List Int) (hl : ns.length ≤ 63) {a c : Int} {n : Nat} (h0 : 0 ≤ a) (h1 : a < 1000) (hc : c.toNat = n) (c0 : 0 ≤ c) (c1 : c ≤ 1000) : ∃ l, Nums n l ∧ M__law_numbers [.lst (ns.map D.int), .int a, .int c] = .ok (true, .lst (l.map D.int)) := by
  subst hc
  have hlen : (intsR 0 c.toNat).length = c.toNat := by unfold intsR; simp
  have fin : ∀ cell : Int, 0 ≤ cell → ∃ l cell' x2 x5 x6, Nums c.toNat l ∧ forF (tgN 5) L1__law_numbers (intsR 0 c.toNat) [none, some (false, .int a), some (false, .int c), some (false, .int cell), some (true, .lst []), none, none] =
      .nx [none, some (false, .int a), x2, some (false, .int cell'), some (true, .lst (l.map D.int)), x5, x6] := fun cell hc => by
    obtain ⟨c', l, x2, x5, x6, e, e2, e3⟩ := nums_loop (intsR 0 c.toNat) cell [] a none (some (false, .int c)) none none (intsR_in (by omega)) hc h0 h1 (by rw [hlen]; simp; omega)
    exact ⟨l, c', x2, x5, x6, ⟨by rw [e2, hlen], e3⟩, e⟩
  have hrg : -(2 ^ 62) ≤ c ∧ c < 2 ^ 62 := ⟨Int.le_trans (by decide) c0, Int.lt_of_le_of_lt c1 (by decide)⟩
  unfold M__law_numbers S__law_numbers
  have m1 : mulOk 1000003 (a + 1) = true := mulOk_l (by decide) (by decide)
  have mul2 : ∀ a : Int, mulOk 2 a = true := fun a => mulOk_l (by decide) (by decide)
  by_cases hb : a < (ns.length : Int)
  · have hat : ∃ c, atI (ns.map D.int) a = some (.int c) := by
      have hi : a.toNat < ns.length := by omega
      refine ⟨ns[a.toNat], ?_⟩
      rw [atI_int h0 (by rw [List.length_map]; omega), List.getElem?_map, List.getElem?_eq_getElem hi]
      rfl
    obtain ⟨c2, hat⟩ := hat
    by_cases hn : c2 < 0
    · obtain ⟨l, c', x2, x5, x6, h, e⟩ := fin (1 - 2 * c2) (by omega)
      refine ⟨l, h, ?_⟩
      simp only [PM.tgT, PM.tgs, PM.callE, PM.runF, PM.initE, PM.seqS, PM.asgS, PM.tgS, PM.parS, PM.appS, PM.augS, PM.dropS, PM.retS, PM.retN, PM.retV, PM.ifS, PM.forS, PM.M.thenS, PM.M.bind, PM.M.lift, PM.ret, PM.cst, PM.var, PM.pvar, PM.pk, PM.bin, PM.asB, PM.truth, PM.tru, PM.tand, PM.tor, PM.tnot, PM.vand, PM.vor, PM.vnot, PM.iff, PM.sli, PM.ono, PM.oin, PM.acons, PM.anil, PM.cnil, PM.cval, PM.cvw, PM.lstE, PM.tupE, PM.blt, PM.isi, PM.una, PM.smE, PM.src, PM.rng1, PM.rng2, PM.skip, PM.brkS, PM.cntS, PM.tgN, PM.itemsD, PM.tyD, PM.Ty.sub, PM.addD, PM.addIA, PM.subD, PM.mulD, PM.mulID, PM.fdivD, PM.modD, PM.powD, PM.ltD, PM.leD, PM.gtD, PM.geD, PM.cmpD, PM.eqD, PM.neD, PM.ixD, PM.sliceD, PM.lenD, PM.intD, PM.strD, PM.listD, PM.tupD, PM.joinD, PM.rjustD, PM.negD, List.length_cons, List.length_nil, List.getElem?_cons_zero, List.getElem?_cons_succ, List.set_cons_zero, List.set_cons_succ, List.map_cons, List.map_nil, List.cons_append, List.nil_append, List.append_nil, List.replicate, List.length_map, List.length_append, if_true, if_false, ite_true, ite_false, reduceIte, Bool.false_eq_true, decide_eq_true_eq, Option.map_some, Option.map_none, Option.bind_some, Option.bind_none, Option.some.injEq, Option.join, List.isEmpty_cons, List.isEmpty_nil, List.all_cons, List.all_nil, PM.owned, PM.noLS, PM.noL, PM.noLs, Bool.or_true, Bool.true_or, Bool.or_false, Bool.false_or, Bool.and_true, Bool.true_and, Bool.and_false, Bool.false_and, Bool.not_true, Bool.not_false, List.isEmpty_map, PM.setS, PM.augIxS, PM.isD, PM.isNonD, PM.isBlD, PM.isNotD, PM.sumD, PM.allD, PM.anyD, PM.absD, PM.gcdD, PM.bitsD, PM.maxD, PM.minD, reduceCtorEq, decide_true, decide_false, eq_self, Nat.zero_add, Nat.reduceAdd, Nat.reduceSub, Nat.reduceLT, Nat.reduceEqDiff, PM.wpS, PM.wipeE, PM.chn, PM.extS, PM.enumA, PM.zipA, PM.zipTA, PM.intA, m1, decide_eq_true hb, hat, decide_eq_true hn, mul2, show 0 ≤ sizeLine by decide, hrg, and_self, e]
    · obtain ⟨l, c', x2, x5, x6, h, e⟩ := fin c2 (by omega)
      refine ⟨l, h, ?_⟩
      simp only [PM.tgT, PM.tgs, PM.callE, PM.runF, PM.initE, PM.seqS, PM.asgS, PM.tgS, PM.parS, PM.appS, PM.augS, PM.dropS, PM.retS, PM.retN, PM.retV, PM.ifS, PM.forS, PM.M.thenS, PM.M.bind, PM.M.lift, PM.ret, PM.cst, PM.var, PM.pvar, PM.pk, PM.bin, PM.asB, PM.truth, PM.tru, PM.tand, PM.tor, PM.tnot, PM.vand, PM.vor, PM.vnot, PM.iff, PM.sli, PM.ono, PM.oin, PM.acons, PM.anil, PM.cnil, PM.cval, PM.cvw, PM.lstE, PM.tupE, PM.blt, PM.isi, PM.una, PM.smE, PM.src, PM.rng1, PM.rng2, PM.skip, PM.brkS, PM.cntS, PM.tgN, PM.itemsD, PM.tyD, PM.Ty.sub, PM.addD, PM.addIA, PM.subD, PM.mulD, PM.mulID, PM.fdivD, PM.modD, PM.powD, PM.ltD, PM.leD, PM.gtD, PM.geD, PM.cmpD, PM.eqD, PM.neD, PM.ixD, PM.sliceD, PM.lenD, PM.intD, PM.strD, PM.listD, PM.tupD, PM.joinD, PM.rjustD, PM.negD, List.length_cons, List.length_nil, List.getElem?_cons_zero, List.getElem?_cons_succ, List.set_cons_zero, List.set_cons_succ, List.map_cons, List.map_nil, List.cons_append, List.nil_append, List.append_nil, List.replicate, List.length_map, List.length_append, if_true, if_false, ite_true, ite_false, reduceIte, Bool.false_eq_true, decide_eq_true_eq, Option.map_some, Option.map_none, Option.bind_some, Option.bind_none, Option.some.injEq, Option.join, List.isEmpty_cons, List.isEmpty_nil, List.all_cons, List.all_nil, PM.owned, PM.noLS, PM.noL, PM.noLs, Bool.or_true, Bool.true_or, Bool.or_false, Bool.false_or, Bool.and_true, Bool.true_and, Bool.and_false, Bool.false_and, Bool.not_true, Bool.not_false, List.isEmpty_map, PM.setS, PM.augIxS, PM.isD, PM.isNonD, PM.isBlD, PM.isNotD, PM.sumD, PM.allD, PM.anyD, PM.absD, PM.gcdD, PM.bitsD, PM.maxD, PM.minD, reduceCtorEq, decide_true, decide_false, eq_self, Nat.zero_add, Nat.reduceAdd, Nat.reduceSub, Nat.reduceLT, Nat.reduceEqDiff, PM.wpS, PM.wipeE, PM.chn, PM.extS, PM.enumA, PM.zipA, PM.zipTA, PM.intA, m1, decide_eq_true hb, hat, decide_eq_false hn, show 0 ≤ sizeLine by decide, hrg, and_self, e]
  · obtain ⟨l, c', x2, x5, x6, h, e⟩ := fin (1000003 * (a + 1)) (by omega)
    refine ⟨l, h, ?_⟩
    simp only [PM.tgT, PM.tgs, PM.callE, PM.runF, PM.initE, PM.seqS, PM.asgS, PM.tgS, PM.parS, PM.appS, PM.augS, PM.dropS, PM.retS, PM.retN, PM.retV, PM.ifS, PM.forS, PM.M.thenS, PM.M.bind, PM.M.lift, PM.ret, PM.cst, PM.var, PM.pvar, PM.pk, PM.bin, PM.asB, PM.truth, PM.tru, PM.tand, PM.tor, PM.tnot, PM.vand, PM.vor, PM.vnot, PM.iff, PM.sli, PM.ono, PM.oin, PM.acons, PM.anil, PM.cnil, PM.cval, PM.cvw, PM.lstE, PM.tupE, PM.blt, PM.isi, PM.una, PM.smE, PM.src, PM.rng1, PM.rng2, PM.skip, PM.brkS, PM.cntS, PM.tgN, PM.itemsD, PM.tyD, PM.Ty.sub, PM.addD, PM.addIA, PM.subD, PM.mulD, PM.mulID, PM.fdivD, PM.modD, PM.powD, PM.ltD, PM.leD, PM.gtD, PM.geD, PM.cmpD, PM.eqD, PM.neD, PM.ixD, PM.sliceD, PM.lenD, PM.intD, PM.strD, PM.listD, PM.tupD, PM.joinD, PM.rjustD, PM.negD, List.length_cons, List.length_nil, List.getElem?_cons_zero, List.getElem?_cons_succ, List.set_cons_zero, List.set_cons_succ, List.map_cons, List.map_nil, List.cons_append, List.nil_append, List.append_nil, List.replicate, List.length_map, List.length_append, if_true, if_false, ite_true, ite_false, reduceIte, Bool.false_eq_true, decide_eq_true_eq, Option.map_some, Option.map_none, Option.bind_some, Option.bind_none, Option.some.injEq, Option.join, List.isEmpty_cons, List.isEmpty_nil, List.all_cons, List.all_nil, PM.owned, PM.noLS, PM.noL, PM.noLs, Bool.or_true, Bool.true_or, Bool.or_false, Bool.false_or, Bool.and_true, Bool.true_and, Bool.and_false, Bool.false_and, Bool.not_true, Bool.not_false, List.isEmpty_map, PM.setS, PM.augIxS, PM.isD, PM.isNonD, PM.isBlD, PM.isNotD, PM.sumD, PM.allD, PM.anyD, PM.absD, PM.gcdD, PM.bitsD, PM.maxD, PM.minD, reduceCtorEq, decide_true, decide_false, eq_self, Nat.zero_add, Nat.reduceAdd, Nat.reduceSub, Nat.reduceLT, Nat.reduceEqDiff, PM.wpS, PM.wipeE, PM.chn, PM.extS, PM.enumA, PM.zipA, PM.zipTA, PM.intA, m1, decide_eq_false hb, decide_eq_false (show ¬ 1000003 * (a + 1) < 0 by omega), show 0 ≤ sizeLine by decide, hrg, and_self, e]
theorem get_at {n : Nat} {l : List Int} (N : Nums n l) {i : Nat} (h : i < n) : atI (l.map D.int) (i : Int) = some (.int (l.getD i 0)) ∧ 0 ≤ l.getD i 0 ∧ l.getD i 0 < 1009 := by
  have hi : i < l.length := by rw [N.len]; exact h
  have e : l.getD i 0 = l[i] := by rw [List.getD_eq_getElem?_getD, List.getElem?_eq_getElem hi]; rfl
  rw [e, atI_nat (by rw [List.length_map]; exact hi), List.getElem?_map, List.getElem?_eq_getElem hi]
  exact ⟨rfl, N.rng _ (List.getElem_mem hi)⟩
end LawW

namespace LawW
open PySem L2 PM
theorem lim {n : Nat} (h : n ≤ 5000) : n ≤ sizeLine := Nat.le_trans h (by decide)
theorem limL {n : Nat} (h : n ≤ 5000) : (n < sizeLine) = True := eq_true (Nat.lt_of_le_of_lt h (by decide))
theorem limT {n : Nat} (h : n ≤ 5000) : (n ≤ sizeLine) = True := eq_true (lim h)
theorem step_tg {S : SM} {ρ ρ1 : PM.Env} {i : Nat} {d : D} (h : tgN i d ρ = some ρ1) : stepF (tgN i) S d ρ = S ρ1 := by
  unfold stepF
  rw [h]
theorem get_ints {a : List Int} {k : Nat} (h : k < a.length) : atI (a.map D.int) (k : Int) = some (.int (a.getD k 0)) := by
  rw [atI_nat (by rw [List.length_map]; exact h), List.getElem?_map, List.getElem?_eq_getElem h, List.getD_eq_getElem?_getD, List.getElem?_eq_getElem h]
  rfl
theorem nls_int : ∀ l : List Int, noLs (l.map D.int) = true
  | [] => rfl
  | a :: l => by
    show (true && noLs (l.map D.int)) = true
    rw [nls_int l]
    rfl
theorem intsR_map (n : Nat) : intsR 0 n = (List.range n).map fun (i : Nat) => D.int (i : Int) := by
  unfold intsR
  simp only [Int.zero_add]
theorem st_eq {a b : List Nat} : (st a == st b) = decide (a = b) := by
  by_cases h : a = b
  · subst h; simp
  · rw [decide_eq_false h]
    refine beq_eq_false_iff_ne.mpr fun e => h ?_
    have : (st a).cps = (st b).cps := congrArg Str.cps e
    simpa [st] using this
theorem get3 {n : Nat} {l : List Int} (N : Nums n l) {i : Nat} (h : i < n) : ∃ x : Int, ixD (.lst (l.map D.int)) (.int (i : Int)) = some (false, .int x) ∧ 0 ≤ x ∧ x < 1009 := by
  obtain ⟨a, b, c⟩ := get_at N h
  exact ⟨_, ix_lst a, b, c⟩
/-! values -/
mutual
def niceD : D → Bool
  | .non => true
  | .bl _ => true
  | .int _ => true
  | .str s => decide (s.length ≤ 1000) && okS s
  | .lst ds => decide (ds.length ≤ 1000) && niceDs ds
  | .tup ds => decide (ds.length ≤ 1000) && niceDs ds
  | _ => false
def niceDs : List D → Bool
  | [] => true
  | d :: ds => niceD d && niceDs ds
end
mutual
def depD : D → Nat
  | .lst ds => depDs ds + 1
  | .tup ds => depDs ds + 1
  | _ => 0
def depDs : List D → Nat
  | [] => 0
  | d :: ds => max (depD d) (depDs ds)
end
theorem nice_str {s : List Nat} (h : niceD (.str s) = true) : s.length ≤ 1000 ∧ okS s = true := by
  unfold niceD at h
  obtain ⟨h1, h2⟩ := Bool.and_eq_true_iff.mp h
  exact ⟨of_decide_eq_true h1, h2⟩
theorem nice_mem : ∀ {ds : List D}, niceDs ds = true → ∀ d ∈ ds, niceD d = true
  | [], _, d, h => by cases h
  | x :: ds, g, d, h => by
    unfold niceDs at g
    obtain ⟨g1, g2⟩ := Bool.and_eq_true_iff.mp g
    rcases List.mem_cons.mp h with rfl | h
    · exact g1
    · exact nice_mem g2 d h
theorem dep_mem : ∀ {ds : List D} (d : D), d ∈ ds → depD d ≤ depDs ds
  | [], d, h => by cases h
  | x :: ds, d, h => by
    unfold depDs
    rcases List.mem_cons.mp h with rfl | h
    · exact Nat.le_max_left _ _
    · exact Nat.le_trans (dep_mem d h) (Nat.le_max_right _ _)
/-! ### _law_alike of a datum and itself -/
def LB (g : FM) : SM := (wpS [2] (ifS (tnot (tru (pk (callE g (cval (pk (bin ixD (pvar 0) (pvar 2))) (cval (pk (bin ixD (pvar 1) (pvar 2))) cnil)))))) (retS (cst (.bl false))) skip))
theorem if_t {C : M Bool} {A B : SM} {ρ : PM.Env} (h : C ρ = .ok true ρ) : ifS C A B ρ = A ρ := by
  unfold ifS M.thenS
  rw [h]
  rfl
theorem if_f {C : M Bool} {A B : SM} {ρ : PM.Env} (h : C ρ = .ok false ρ) : ifS C A B ρ = B ρ := by
  unfold ifS M.thenS
  rw [h]
  rfl
theorem nice_at {ds : List D} {i : Nat} {d : D} (g : niceDs ds = true) (h : ds[i]? = some d) : niceD d = true ∧ depD d ≤ depDs ds :=
  ⟨nice_mem g d (List.mem_of_getElem? h), dep_mem d (List.mem_of_getElem? h)⟩
theorem lb_turn {g : FM} {w d : D} {x : D} (i : ixD w x = some (false, d)) (e : g [d, d] = .ok (false, .bl true)) : LB g [some (false, w), some (false, w), some (false, x)] = .nx [some (false, w), some (false, w), none] := by
  unfold LB
  simp only [PM.tgT, PM.tgs, PM.callE, PM.runF, PM.initE, PM.seqS, PM.asgS, PM.tgS, PM.parS, PM.appS, PM.augS, PM.dropS, PM.retS, PM.retN, PM.retV, PM.ifS, PM.forS, PM.M.thenS, PM.M.bind, PM.M.lift, PM.ret, PM.cst, PM.var, PM.pvar, PM.pk, PM.bin, PM.asB, PM.tru, PM.tand, PM.tor, PM.tnot, PM.vand, PM.vor, PM.vnot, PM.iff, PM.sli, PM.ono, PM.oin, PM.acons, PM.anil, PM.cnil, PM.cval, PM.cvw, PM.lstE, PM.tupE, PM.blt, PM.isi, PM.una, PM.smE, PM.src, PM.rng1, PM.rng2, PM.skip, PM.brkS, PM.cntS, PM.tgN, PM.wpS, PM.wipeE, PM.chn, PM.setS, PM.yes, PM.extS, PM.enumA, PM.zipA, PM.zipTA, PM.clean, PM.lcE, PM.lenSetE, List.length_cons, List.length_nil, List.getElem?_cons_zero, List.getElem?_cons_succ, List.set_cons_zero, List.set_cons_succ, List.map_cons, List.map_nil, List.cons_append, List.nil_append, List.append_nil, List.replicate, List.length_map, List.length_append, List.length_range, if_true, if_false, ite_true, ite_false, reduceIte, Bool.false_eq_true, decide_eq_true_eq, Option.map_some, Option.map_none, Option.bind_some, Option.bind_none, Option.some.injEq, Option.join, List.isEmpty_cons, List.isEmpty_nil, List.all_cons, List.all_nil, PM.owned, PM.noLS, PM.noL, PM.noLs, Bool.or_true, Bool.true_or, Bool.or_false, Bool.false_or, Bool.and_true, Bool.true_and, Bool.and_false, Bool.false_and, Bool.not_true, Bool.not_false, Bool.not_not, PM.Ty.sub, PM.sub_self, reduceCtorEq, decide_true, decide_false, eq_self, Nat.zero_add, Nat.reduceAdd, Nat.reduceSub, Nat.reduceLT, Nat.reduceEqDiff, Nat.reduceLeDiff, Int.toNat_natCast, PM.truth_non, PM.truth_bl, PM.truth_int, PM.truth_str, PM.truth_lst, PM.truth_tup, PM.add_ii, PM.add_ss, PM.add_ll, PM.add_tt, PM.addI_ii, PM.addI_ss, PM.sub_ii, PM.mul_l, PM.mul_r, PM.fdiv_ii, PM.mod_ii, PM.lt_ii, PM.le_ii, PM.gt_ii, PM.ge_ii, PM.eq_ii, PM.ne_ii, PM.eq_ss, PM.ne_ss, PM.ix_lst, PM.ix_tup, PM.ix_str, PM.sl_lst, PM.sl_tup, PM.sl_str, PM.len_str, PM.len_lst, PM.len_tup, PM.int_i, PM.intA_i, PM.list_l, PM.list_t, PM.tup_l, PM.tup_t, PM.neg_i, PM.abs_i, PM.is_nn, PM.is_bb, PM.is_in, PM.is_sn, PM.is_ln, PM.is_tn, PM.is_bn, PM.isn_nn, PM.isn_in, PM.isn_sn, PM.isn_ln, PM.isn_tn, PM.it_lst, PM.it_tup, PM.it_str, PM.ty_non, PM.ty_bl, PM.ty_int, PM.ty_str, PM.ty_lst, PM.ty_tup, PM.le_sz, PM.lt_sz, i, e]
theorem al_loop {g : FM} {w : D} {ds : List D} (hix : ∀ k : Nat, k < ds.length → ixD w (.int (k : Int)) = (ds[k]?).map fun d => ((false, d) : PM.Slot)) (hg : ∀ (k : Nat) d, ds[k]? = some d → g [d, d] = .ok (false, .bl true)) :
    ∀ (l : List Nat) (x : Option PM.Slot), (∀ k ∈ l, k < ds.length) → ∃ x', forF (tgN 2) (LB g) (l.map fun (i : Nat) => D.int (i : Int)) [some (false, w), some (false, w), x] = .nx [some (false, w), some (false, w), x']
  | [], x, _ => ⟨x, rfl⟩
  | k :: l, x, h => by
    obtain ⟨x', e⟩ := al_loop hix hg l none fun j hj => h j (List.mem_cons_of_mem _ hj)
    refine ⟨x', ?_⟩
    have hk := h k List.mem_cons_self
    obtain ⟨d, hd⟩ : ∃ d, ds[k]? = some d := ⟨_, List.getElem?_eq_getElem hk⟩
    have hi := hix k hk
    rw [hd] at hi
    rw [List.map_cons, for_go (S := LB g) (ρ1 := [some (false, w), some (false, w), some (false, .int (k : Int))]) rfl (lb_turn hi (hg k d hd))]
    exact e
theorem al_body {g : FM} {w : D} {ds : List D} {c0 : M Bool} (hl : ds.length ≤ 1000) (hlen : lenD [w] = some (false, .int ds.length)) (h0 : c0 [some (false, w), some (false, w), none] = .ok true [some (false, w), some (false, w), none]) (hix : ∀ k : Nat, k < ds.length → ixD w (.int (k : Int)) = (ds[k]?).map fun d => ((false, d) : PM.Slot)) (hg : ∀ (k : Nat) d, ds[k]? = some d → g [d, d] = .ok (false, .bl true)) :
    (seqS (ifS (tor (tnot c0) (asB (bin neD (pk (blt lenD (acons (pvar 0) anil))) (pk (blt lenD (acons (pvar 1) anil)))))) (retS (cst (.bl false))) skip)
  (seqS (wpS [0, 1] (forS (rng1 (acons (pk (blt lenD (acons (pvar 1) anil))) anil)) (tgN 2) (LB g)))
  (retS (cst (.bl true))))) [some (false, w), some (false, w), none] = .rt (false, .bl true) := by
  have q := ne_ii (i := (ds.length : Int)) (j := (ds.length : Int))
  rw [decide_eq_true rfl] at q
  refine go (ρ1 := [some (false, w), some (false, w), none]) (by simp only [PM.tgT, PM.tgs, PM.callE, PM.runF, PM.initE, PM.seqS, PM.asgS, PM.tgS, PM.parS, PM.appS, PM.augS, PM.dropS, PM.retS, PM.retN, PM.retV, PM.ifS, PM.forS, PM.M.thenS, PM.M.bind, PM.M.lift, PM.ret, PM.cst, PM.var, PM.pvar, PM.pk, PM.bin, PM.asB, PM.tru, PM.tand, PM.tor, PM.tnot, PM.vand, PM.vor, PM.vnot, PM.iff, PM.sli, PM.ono, PM.oin, PM.acons, PM.anil, PM.cnil, PM.cval, PM.cvw, PM.lstE, PM.tupE, PM.blt, PM.isi, PM.una, PM.smE, PM.src, PM.rng1, PM.rng2, PM.skip, PM.brkS, PM.cntS, PM.tgN, PM.wpS, PM.wipeE, PM.chn, PM.setS, PM.yes, PM.extS, PM.enumA, PM.zipA, PM.zipTA, PM.clean, PM.lcE, PM.lenSetE, List.length_cons, List.length_nil, List.getElem?_cons_zero, List.getElem?_cons_succ, List.set_cons_zero, List.set_cons_succ, List.map_cons, List.map_nil, List.cons_append, List.nil_append, List.append_nil, List.replicate, List.length_map, List.length_append, List.length_range, if_true, if_false, ite_true, ite_false, reduceIte, Bool.false_eq_true, decide_eq_true_eq, Option.map_some, Option.map_none, Option.bind_some, Option.bind_none, Option.some.injEq, Option.join, List.isEmpty_cons, List.isEmpty_nil, List.all_cons, List.all_nil, PM.owned, PM.noLS, PM.noL, PM.noLs, Bool.or_true, Bool.true_or, Bool.or_false, Bool.false_or, Bool.and_true, Bool.true_and, Bool.and_false, Bool.false_and, Bool.not_true, Bool.not_false, Bool.not_not, PM.Ty.sub, PM.sub_self, reduceCtorEq, decide_true, decide_false, eq_self, Nat.zero_add, Nat.reduceAdd, Nat.reduceSub, Nat.reduceLT, Nat.reduceEqDiff, Nat.reduceLeDiff, Int.toNat_natCast, h0, hlen, q, PM.truth_bl]) ?_
  obtain ⟨x', e⟩ := al_loop hix hg (List.range ds.length) none fun k hk => List.mem_range.mp hk
  have r : rng1 (acons (pk (blt lenD (acons (pvar 1) anil))) anil) [some (false, w), some (false, w), none] = .ok (intsR 0 ds.length) [some (false, w), some (false, w), none] := rng_ok (L := (ds.length : Int)) (by simp only [PM.tgT, PM.tgs, PM.callE, PM.runF, PM.initE, PM.seqS, PM.asgS, PM.tgS, PM.parS, PM.appS, PM.augS, PM.dropS, PM.retS, PM.retN, PM.retV, PM.ifS, PM.forS, PM.M.thenS, PM.M.bind, PM.M.lift, PM.ret, PM.cst, PM.var, PM.pvar, PM.pk, PM.bin, PM.asB, PM.tru, PM.tand, PM.tor, PM.tnot, PM.vand, PM.vor, PM.vnot, PM.iff, PM.sli, PM.ono, PM.oin, PM.acons, PM.anil, PM.cnil, PM.cval, PM.cvw, PM.lstE, PM.tupE, PM.blt, PM.isi, PM.una, PM.smE, PM.src, PM.rng1, PM.rng2, PM.skip, PM.brkS, PM.cntS, PM.tgN, PM.wpS, PM.wipeE, PM.chn, PM.setS, PM.yes, PM.extS, PM.enumA, PM.zipA, PM.zipTA, PM.clean, PM.lcE, PM.lenSetE, List.length_cons, List.length_nil, List.getElem?_cons_zero, List.getElem?_cons_succ, List.set_cons_zero, List.set_cons_succ, List.map_cons, List.map_nil, List.cons_append, List.nil_append, List.append_nil, List.replicate, List.length_map, List.length_append, List.length_range, if_true, if_false, ite_true, ite_false, reduceIte, Bool.false_eq_true, decide_eq_true_eq, Option.map_some, Option.map_none, Option.bind_some, Option.bind_none, Option.some.injEq, Option.join, List.isEmpty_cons, List.isEmpty_nil, List.all_cons, List.all_nil, PM.owned, PM.noLS, PM.noL, PM.noLs, Bool.or_true, Bool.true_or, Bool.or_false, Bool.false_or, Bool.and_true, Bool.true_and, Bool.and_false, Bool.false_and, Bool.not_true, Bool.not_false, Bool.not_not, PM.Ty.sub, PM.sub_self, reduceCtorEq, decide_true, decide_false, eq_self, Nat.zero_add, Nat.reduceAdd, Nat.reduceSub, Nat.reduceLT, Nat.reduceEqDiff, Nat.reduceLeDiff, Int.toNat_natCast, hlen]) rfl (by omega)
  rw [intsR_map] at r
  refine go (wp_nx ((for_nx r).trans e)) ?_
  rfl
theorem alike_ok (n : Nat) : ∀ (d : D), niceD d = true → depD d < n → M__law_alike n [d, d] = .ok (false, .bl true) := by
  induction n with
  | zero => exact fun d _ h => absurd h (Nat.not_lt_zero _)
  | succ n ih =>
    intro d g h
    refine run_rt rfl ?_
    show S__law_alike (M__law_alike n) [some (false, d), some (false, d), none] = _
    have hg : ∀ ds : List D, niceDs ds = true → depDs ds < n → ∀ (k : Nat) d, ds[k]? = some d → M__law_alike n [d, d] = .ok (false, .bl true) := fun ds g hd k d e => ih d (nice_at g e).1 (Nat.lt_of_le_of_lt (nice_at g e).2 hd)
    unfold S__law_alike
    generalize M__law_alike n = al at *
    cases d with
    | non => rfl
    | bl b => cases b <;> rfl
    | int i =>
      refine go (S1 := T1__law_alike al) (ρ1 := [some (false, .int i), some (false, .int i), none]) rfl (go (S1 := T2__law_alike al) (ρ1 := [some (false, .int i), some (false, .int i), none]) rfl (go (S1 := T3__law_alike al) (ρ1 := [some (false, .int i), some (false, .int i), none]) rfl (go (S1 := T4__law_alike al) (ρ1 := [some (false, .int i), some (false, .int i), none]) rfl (go (S1 := T5__law_alike al) (ρ1 := [some (false, .int i), some (false, .int i), none]) rfl (go (S1 := T6__law_alike al) (ρ1 := [some (false, .int i), some (false, .int i), none]) rfl ?_)))))
      have q := eq_ii (i := i) (j := i)
      rw [decide_eq_true rfl] at q
      unfold T7__law_alike
      simp only [PM.tgT, PM.tgs, PM.callE, PM.runF, PM.initE, PM.seqS, PM.asgS, PM.tgS, PM.parS, PM.appS, PM.augS, PM.dropS, PM.retS, PM.retN, PM.retV, PM.ifS, PM.forS, PM.M.thenS, PM.M.bind, PM.M.lift, PM.ret, PM.cst, PM.var, PM.pvar, PM.pk, PM.bin, PM.asB, PM.tru, PM.tand, PM.tor, PM.tnot, PM.vand, PM.vor, PM.vnot, PM.iff, PM.sli, PM.ono, PM.oin, PM.acons, PM.anil, PM.cnil, PM.cval, PM.cvw, PM.lstE, PM.tupE, PM.blt, PM.isi, PM.una, PM.smE, PM.src, PM.rng1, PM.rng2, PM.skip, PM.brkS, PM.cntS, PM.tgN, PM.wpS, PM.wipeE, PM.chn, PM.setS, PM.yes, PM.extS, PM.enumA, PM.zipA, PM.zipTA, PM.clean, PM.lcE, PM.lenSetE, List.length_cons, List.length_nil, List.getElem?_cons_zero, List.getElem?_cons_succ, List.set_cons_zero, List.set_cons_succ, List.map_cons, List.map_nil, List.cons_append, List.nil_append, List.append_nil, List.replicate, List.length_map, List.length_append, List.length_range, if_true, if_false, ite_true, ite_false, reduceIte, Bool.false_eq_true, decide_eq_true_eq, Option.map_some, Option.map_none, Option.bind_some, Option.bind_none, Option.some.injEq, Option.join, List.isEmpty_cons, List.isEmpty_nil, List.all_cons, List.all_nil, PM.owned, PM.noLS, PM.noL, PM.noLs, Bool.or_true, Bool.true_or, Bool.or_false, Bool.false_or, Bool.and_true, Bool.true_and, Bool.and_false, Bool.false_and, Bool.not_true, Bool.not_false, Bool.not_not, PM.Ty.sub, PM.sub_self, reduceCtorEq, decide_true, decide_false, eq_self, Nat.zero_add, Nat.reduceAdd, Nat.reduceSub, Nat.reduceLT, Nat.reduceEqDiff, Nat.reduceLeDiff, Int.toNat_natCast, q, PM.ty_int, PM.truth_bl]
    | str s =>
      refine go (S1 := T1__law_alike al) (ρ1 := [some (false, .str s), some (false, .str s), none]) rfl (go (S1 := T2__law_alike al) (ρ1 := [some (false, .str s), some (false, .str s), none]) rfl ?_)
      have q := eq_ss (nice_str g).2 (nice_str g).2
      rw [decide_eq_true rfl] at q
      refine PM.seq_rt ?_
      unfold T3__law_alike
      simp only [PM.tgT, PM.tgs, PM.callE, PM.runF, PM.initE, PM.seqS, PM.asgS, PM.tgS, PM.parS, PM.appS, PM.augS, PM.dropS, PM.retS, PM.retN, PM.retV, PM.ifS, PM.forS, PM.M.thenS, PM.M.bind, PM.M.lift, PM.ret, PM.cst, PM.var, PM.pvar, PM.pk, PM.bin, PM.asB, PM.tru, PM.tand, PM.tor, PM.tnot, PM.vand, PM.vor, PM.vnot, PM.iff, PM.sli, PM.ono, PM.oin, PM.acons, PM.anil, PM.cnil, PM.cval, PM.cvw, PM.lstE, PM.tupE, PM.blt, PM.isi, PM.una, PM.smE, PM.src, PM.rng1, PM.rng2, PM.skip, PM.brkS, PM.cntS, PM.tgN, PM.wpS, PM.wipeE, PM.chn, PM.setS, PM.yes, PM.extS, PM.enumA, PM.zipA, PM.zipTA, PM.clean, PM.lcE, PM.lenSetE, List.length_cons, List.length_nil, List.getElem?_cons_zero, List.getElem?_cons_succ, List.set_cons_zero, List.set_cons_succ, List.map_cons, List.map_nil, List.cons_append, List.nil_append, List.append_nil, List.replicate, List.length_map, List.length_append, List.length_range, if_true, if_false, ite_true, ite_false, reduceIte, Bool.false_eq_true, decide_eq_true_eq, Option.map_some, Option.map_none, Option.bind_some, Option.bind_none, Option.some.injEq, Option.join, List.isEmpty_cons, List.isEmpty_nil, List.all_cons, List.all_nil, PM.owned, PM.noLS, PM.noL, PM.noLs, Bool.or_true, Bool.true_or, Bool.or_false, Bool.false_or, Bool.and_true, Bool.true_and, Bool.and_false, Bool.false_and, Bool.not_true, Bool.not_false, Bool.not_not, PM.Ty.sub, PM.sub_self, reduceCtorEq, decide_true, decide_false, eq_self, Nat.zero_add, Nat.reduceAdd, Nat.reduceSub, Nat.reduceLT, Nat.reduceEqDiff, Nat.reduceLeDiff, Int.toNat_natCast, q, PM.ty_str, PM.truth_bl]
    | lst ds =>
      unfold niceD at g
      obtain ⟨g1, g2⟩ := Bool.and_eq_true_iff.mp g
      have h : depDs ds + 1 < n + 1 := by unfold depD at h; exact h
      refine go (S1 := T1__law_alike al) (ρ1 := [some (false, .lst ds), some (false, .lst ds), none]) rfl ?_
      refine PM.seq_rt (S1 := T2__law_alike al) (wp_rt ((if_t rfl).trans ?_))
      exact al_body (of_decide_eq_true g1) rfl rfl (fun k hk => by show Option.map _ (atI ds (k : Int)) = _; rw [atI_nat hk]) (hg ds g2 (by omega))
    | tup ds =>
      unfold niceD at g
      obtain ⟨g1, g2⟩ := Bool.and_eq_true_iff.mp g
      have h : depDs ds + 1 < n + 1 := by unfold depD at h; exact h
      refine PM.seq_rt (S1 := T1__law_alike al) (wp_rt ((if_t rfl).trans ?_))
      exact al_body (of_decide_eq_true g1) rfl rfl (fun k hk => by show Option.map _ (atI ds (k : Int)) = _; rw [atI_nat hk]) (hg ds g2 (by omega))
    | _ => unfold niceD at g; cases g
end LawW

namespace LawW
open PySem L2 PM
/-! ### fields, reasons -/
def okN : D → Bool
  | .int i => decide (0 ≤ i) && decide (i ≤ 99999)
  | _ => false
def fldB : D → Bool
  | .tup ds => decide (ds.length = 9) && ds.all okN
  | _ => false
abbrev rForm : List Nat := [102, 111, 114, 109]
abbrev rWidth : List Nat := [119, 105, 100, 116, 104]
abbrev rHeight : List Nat := [104, 101, 105, 103, 104, 116]
abbrev rSpace : List Nat := [115, 112, 97, 99, 101]
abbrev rStretch : List Nat := [115, 116, 114, 101, 116, 99, 104]
abbrev rShrink : List Nat := [115, 104, 114, 105, 110, 107]
abbrev rIndent : List Nat := [105, 110, 100, 101, 110, 116]
abbrev rLeading : List Nat := [108, 101, 97, 100, 105, 110, 103]
def whyP (a b c d e f g : Int) : List (List Nat × Bool) := [(rWidth, decide (a < 1)), (rHeight, decide (b < 1)), (rSpace, decide (c < 1)), (rStretch, decide (d < 1)), (rShrink, decide (c ≤ e)), (rIndent, decide (a ≤ 2 * f)), (rLeading, decide (g < 1) || decide (b < g))]
def firstP : List (List Nat × Bool) → Option (List Nat)
  | [] => none
  | (n, b) :: r => if b = true then some n else firstP r
def rsn : D → Option (List Nat)
  | .tup [.int a, .int b, .int c, .int d, .int e, .int f, .int g, .int h, .int i] => if ([.int a, .int b, .int c, .int d, .int e, .int f, .int g, .int h, .int i] : List D).all okN = true then firstP (whyP a b c d e f g) else some rForm
  | _ => some rForm
def rsD : Option (List Nat) → D
  | none => .non
  | some s => .str s
def isI : D → Bool
  | .int _ => true
  | _ => false
theorem whole_ok {d : D} (h : niceD d = true) : M_is_whole [d] = .ok (false, .bl (isI d)) := by
  cases d with
  | non => rfl
  | bl b => rfl
  | int i => rfl
  | str s => rfl
  | lst a => rfl
  | tup a => rfl
  | _ => unfold niceD at h; cases h
theorem all_map {α : Type} (f : α → Bool) (ds : List α) : allD [.lst (ds.map fun d => D.bl (f d))] = some (false, .bl (ds.all f)) := by
  have := all_l (bls_map (ds.map f))
  rw [List.map_map, List.all_map] at this
  exact this
theorem hf_one {WH : FM} {v d : D} (h : niceD d = true) (e : WH [d] = .ok (false, .bl (isI d))) : (pk (vand (callE WH (cvw 1 cnil)) (chn leD leD (pk (cst (.int 0))) (pvar 1) (pk (cst (.int 99999)))))) [some (false, v), some (false, d)] = .ok (.bl (okN d)) [some (false, v), some (false, d)] := by
  cases d with
  | int i =>
    have e : WH [.int i] = .ok (false, .bl true) := e
    unfold okN
    by_cases h1 : 0 ≤ i
    · by_cases h2 : i ≤ 99999
      · simp only [PM.tgT, PM.tgs, PM.callE, PM.runF, PM.initE, PM.seqS, PM.asgS, PM.tgS, PM.parS, PM.appS, PM.augS, PM.dropS, PM.retS, PM.retN, PM.retV, PM.ifS, PM.forS, PM.M.thenS, PM.M.bind, PM.M.lift, PM.ret, PM.cst, PM.var, PM.pvar, PM.pk, PM.bin, PM.asB, PM.tru, PM.tand, PM.tor, PM.tnot, PM.vand, PM.vor, PM.vnot, PM.iff, PM.sli, PM.ono, PM.oin, PM.acons, PM.anil, PM.cnil, PM.cval, PM.cvw, PM.lstE, PM.tupE, PM.blt, PM.isi, PM.una, PM.smE, PM.src, PM.rng1, PM.rng2, PM.skip, PM.brkS, PM.cntS, PM.tgN, PM.wpS, PM.wipeE, PM.chn, PM.setS, PM.yes, PM.extS, PM.enumA, PM.zipA, PM.zipTA, PM.clean, PM.lcE, PM.lenSetE, List.length_cons, List.length_nil, List.getElem?_cons_zero, List.getElem?_cons_succ, List.set_cons_zero, List.set_cons_succ, List.map_cons, List.map_nil, List.cons_append, List.nil_append, List.append_nil, List.replicate, List.length_map, List.length_append, List.length_range, if_true, if_false, ite_true, ite_false, reduceIte, Bool.false_eq_true, decide_eq_true_eq, Option.map_some, Option.map_none, Option.bind_some, Option.bind_none, Option.some.injEq, Option.join, List.isEmpty_cons, List.isEmpty_nil, List.all_cons, List.all_nil, PM.owned, PM.noLS, PM.noL, PM.noLs, Bool.or_true, Bool.true_or, Bool.or_false, Bool.false_or, Bool.and_true, Bool.true_and, Bool.and_false, Bool.false_and, Bool.not_true, Bool.not_false, Bool.not_not, PM.Ty.sub, PM.sub_self, reduceCtorEq, decide_true, decide_false, eq_self, Nat.zero_add, Nat.reduceAdd, Nat.reduceSub, Nat.reduceLT, Nat.reduceEqDiff, Nat.reduceLeDiff, Int.toNat_natCast, PM.truth_non, PM.truth_bl, PM.truth_int, PM.truth_str, PM.truth_lst, PM.truth_tup, PM.add_ii, PM.add_ss, PM.add_ll, PM.add_tt, PM.addI_ii, PM.addI_ss, PM.sub_ii, PM.mul_l, PM.mul_r, PM.fdiv_ii, PM.mod_ii, PM.lt_ii, PM.le_ii, PM.gt_ii, PM.ge_ii, PM.eq_ii, PM.ne_ii, PM.eq_ss, PM.ne_ss, PM.ix_lst, PM.ix_tup, PM.ix_str, PM.sl_lst, PM.sl_tup, PM.sl_str, PM.len_str, PM.len_lst, PM.len_tup, PM.int_i, PM.intA_i, PM.list_l, PM.list_t, PM.tup_l, PM.tup_t, PM.neg_i, PM.abs_i, PM.is_nn, PM.is_bb, PM.is_in, PM.is_sn, PM.is_ln, PM.is_tn, PM.is_bn, PM.isn_nn, PM.isn_in, PM.isn_sn, PM.isn_ln, PM.isn_tn, PM.it_lst, PM.it_tup, PM.it_str, PM.ty_non, PM.ty_bl, PM.ty_int, PM.ty_str, PM.ty_lst, PM.ty_tup, PM.le_sz, PM.lt_sz, e, decide_eq_true h1, decide_eq_true h2]
      · simp only [PM.tgT, PM.tgs, PM.callE, PM.runF, PM.initE, PM.seqS, PM.asgS, PM.tgS, PM.parS, PM.appS, PM.augS, PM.dropS, PM.retS, PM.retN, PM.retV, PM.ifS, PM.forS, PM.M.thenS, PM.M.bind, PM.M.lift, PM.ret, PM.cst, PM.var, PM.pvar, PM.pk, PM.bin, PM.asB, PM.tru, PM.tand, PM.tor, PM.tnot, PM.vand, PM.vor, PM.vnot, PM.iff, PM.sli, PM.ono, PM.oin, PM.acons, PM.anil, PM.cnil, PM.cval, PM.cvw, PM.lstE, PM.tupE, PM.blt, PM.isi, PM.una, PM.smE, PM.src, PM.rng1, PM.rng2, PM.skip, PM.brkS, PM.cntS, PM.tgN, PM.wpS, PM.wipeE, PM.chn, PM.setS, PM.yes, PM.extS, PM.enumA, PM.zipA, PM.zipTA, PM.clean, PM.lcE, PM.lenSetE, List.length_cons, List.length_nil, List.getElem?_cons_zero, List.getElem?_cons_succ, List.set_cons_zero, List.set_cons_succ, List.map_cons, List.map_nil, List.cons_append, List.nil_append, List.append_nil, List.replicate, List.length_map, List.length_append, List.length_range, if_true, if_false, ite_true, ite_false, reduceIte, Bool.false_eq_true, decide_eq_true_eq, Option.map_some, Option.map_none, Option.bind_some, Option.bind_none, Option.some.injEq, Option.join, List.isEmpty_cons, List.isEmpty_nil, List.all_cons, List.all_nil, PM.owned, PM.noLS, PM.noL, PM.noLs, Bool.or_true, Bool.true_or, Bool.or_false, Bool.false_or, Bool.and_true, Bool.true_and, Bool.and_false, Bool.false_and, Bool.not_true, Bool.not_false, Bool.not_not, PM.Ty.sub, PM.sub_self, reduceCtorEq, decide_true, decide_false, eq_self, Nat.zero_add, Nat.reduceAdd, Nat.reduceSub, Nat.reduceLT, Nat.reduceEqDiff, Nat.reduceLeDiff, Int.toNat_natCast, PM.truth_non, PM.truth_bl, PM.truth_int, PM.truth_str, PM.truth_lst, PM.truth_tup, PM.add_ii, PM.add_ss, PM.add_ll, PM.add_tt, PM.addI_ii, PM.addI_ss, PM.sub_ii, PM.mul_l, PM.mul_r, PM.fdiv_ii, PM.mod_ii, PM.lt_ii, PM.le_ii, PM.gt_ii, PM.ge_ii, PM.eq_ii, PM.ne_ii, PM.eq_ss, PM.ne_ss, PM.ix_lst, PM.ix_tup, PM.ix_str, PM.sl_lst, PM.sl_tup, PM.sl_str, PM.len_str, PM.len_lst, PM.len_tup, PM.int_i, PM.intA_i, PM.list_l, PM.list_t, PM.tup_l, PM.tup_t, PM.neg_i, PM.abs_i, PM.is_nn, PM.is_bb, PM.is_in, PM.is_sn, PM.is_ln, PM.is_tn, PM.is_bn, PM.isn_nn, PM.isn_in, PM.isn_sn, PM.isn_ln, PM.isn_tn, PM.it_lst, PM.it_tup, PM.it_str, PM.ty_non, PM.ty_bl, PM.ty_int, PM.ty_str, PM.ty_lst, PM.ty_tup, PM.le_sz, PM.lt_sz, e, decide_eq_true h1, decide_eq_false h2]
    · simp only [PM.tgT, PM.tgs, PM.callE, PM.runF, PM.initE, PM.seqS, PM.asgS, PM.tgS, PM.parS, PM.appS, PM.augS, PM.dropS, PM.retS, PM.retN, PM.retV, PM.ifS, PM.forS, PM.M.thenS, PM.M.bind, PM.M.lift, PM.ret, PM.cst, PM.var, PM.pvar, PM.pk, PM.bin, PM.asB, PM.tru, PM.tand, PM.tor, PM.tnot, PM.vand, PM.vor, PM.vnot, PM.iff, PM.sli, PM.ono, PM.oin, PM.acons, PM.anil, PM.cnil, PM.cval, PM.cvw, PM.lstE, PM.tupE, PM.blt, PM.isi, PM.una, PM.smE, PM.src, PM.rng1, PM.rng2, PM.skip, PM.brkS, PM.cntS, PM.tgN, PM.wpS, PM.wipeE, PM.chn, PM.setS, PM.yes, PM.extS, PM.enumA, PM.zipA, PM.zipTA, PM.clean, PM.lcE, PM.lenSetE, List.length_cons, List.length_nil, List.getElem?_cons_zero, List.getElem?_cons_succ, List.set_cons_zero, List.set_cons_succ, List.map_cons, List.map_nil, List.cons_append, List.nil_append, List.append_nil, List.replicate, List.length_map, List.length_append, List.length_range, if_true, if_false, ite_true, ite_false, reduceIte, Bool.false_eq_true, decide_eq_true_eq, Option.map_some, Option.map_none, Option.bind_some, Option.bind_none, Option.some.injEq, Option.join, List.isEmpty_cons, List.isEmpty_nil, List.all_cons, List.all_nil, PM.owned, PM.noLS, PM.noL, PM.noLs, Bool.or_true, Bool.true_or, Bool.or_false, Bool.false_or, Bool.and_true, Bool.true_and, Bool.and_false, Bool.false_and, Bool.not_true, Bool.not_false, Bool.not_not, PM.Ty.sub, PM.sub_self, reduceCtorEq, decide_true, decide_false, eq_self, Nat.zero_add, Nat.reduceAdd, Nat.reduceSub, Nat.reduceLT, Nat.reduceEqDiff, Nat.reduceLeDiff, Int.toNat_natCast, PM.truth_non, PM.truth_bl, PM.truth_int, PM.truth_str, PM.truth_lst, PM.truth_tup, PM.add_ii, PM.add_ss, PM.add_ll, PM.add_tt, PM.addI_ii, PM.addI_ss, PM.sub_ii, PM.mul_l, PM.mul_r, PM.fdiv_ii, PM.mod_ii, PM.lt_ii, PM.le_ii, PM.gt_ii, PM.ge_ii, PM.eq_ii, PM.ne_ii, PM.eq_ss, PM.ne_ss, PM.ix_lst, PM.ix_tup, PM.ix_str, PM.sl_lst, PM.sl_tup, PM.sl_str, PM.len_str, PM.len_lst, PM.len_tup, PM.int_i, PM.intA_i, PM.list_l, PM.list_t, PM.tup_l, PM.tup_t, PM.neg_i, PM.abs_i, PM.is_nn, PM.is_bb, PM.is_in, PM.is_sn, PM.is_ln, PM.is_tn, PM.is_bn, PM.isn_nn, PM.isn_in, PM.isn_sn, PM.isn_ln, PM.isn_tn, PM.it_lst, PM.it_tup, PM.it_str, PM.ty_non, PM.ty_bl, PM.ty_int, PM.ty_str, PM.ty_lst, PM.ty_tup, PM.le_sz, PM.lt_sz, e, decide_eq_false h1]
  | non => have e : WH [.non] = .ok (false, .bl false) := e; unfold okN; simp only [PM.tgT, PM.tgs, PM.callE, PM.runF, PM.initE, PM.seqS, PM.asgS, PM.tgS, PM.parS, PM.appS, PM.augS, PM.dropS, PM.retS, PM.retN, PM.retV, PM.ifS, PM.forS, PM.M.thenS, PM.M.bind, PM.M.lift, PM.ret, PM.cst, PM.var, PM.pvar, PM.pk, PM.bin, PM.asB, PM.tru, PM.tand, PM.tor, PM.tnot, PM.vand, PM.vor, PM.vnot, PM.iff, PM.sli, PM.ono, PM.oin, PM.acons, PM.anil, PM.cnil, PM.cval, PM.cvw, PM.lstE, PM.tupE, PM.blt, PM.isi, PM.una, PM.smE, PM.src, PM.rng1, PM.rng2, PM.skip, PM.brkS, PM.cntS, PM.tgN, PM.wpS, PM.wipeE, PM.chn, PM.setS, PM.yes, PM.extS, PM.enumA, PM.zipA, PM.zipTA, PM.clean, PM.lcE, PM.lenSetE, List.length_cons, List.length_nil, List.getElem?_cons_zero, List.getElem?_cons_succ, List.set_cons_zero, List.set_cons_succ, List.map_cons, List.map_nil, List.cons_append, List.nil_append, List.append_nil, List.replicate, List.length_map, List.length_append, List.length_range, if_true, if_false, ite_true, ite_false, reduceIte, Bool.false_eq_true, decide_eq_true_eq, Option.map_some, Option.map_none, Option.bind_some, Option.bind_none, Option.some.injEq, Option.join, List.isEmpty_cons, List.isEmpty_nil, List.all_cons, List.all_nil, PM.owned, PM.noLS, PM.noL, PM.noLs, Bool.or_true, Bool.true_or, Bool.or_false, Bool.false_or, Bool.and_true, Bool.true_and, Bool.and_false, Bool.false_and, Bool.not_true, Bool.not_false, Bool.not_not, PM.Ty.sub, PM.sub_self, reduceCtorEq, decide_true, decide_false, eq_self, Nat.zero_add, Nat.reduceAdd, Nat.reduceSub, Nat.reduceLT, Nat.reduceEqDiff, Nat.reduceLeDiff, Int.toNat_natCast, PM.truth_non, PM.truth_bl, PM.truth_int, PM.truth_str, PM.truth_lst, PM.truth_tup, PM.add_ii, PM.add_ss, PM.add_ll, PM.add_tt, PM.addI_ii, PM.addI_ss, PM.sub_ii, PM.mul_l, PM.mul_r, PM.fdiv_ii, PM.mod_ii, PM.lt_ii, PM.le_ii, PM.gt_ii, PM.ge_ii, PM.eq_ii, PM.ne_ii, PM.eq_ss, PM.ne_ss, PM.ix_lst, PM.ix_tup, PM.ix_str, PM.sl_lst, PM.sl_tup, PM.sl_str, PM.len_str, PM.len_lst, PM.len_tup, PM.int_i, PM.intA_i, PM.list_l, PM.list_t, PM.tup_l, PM.tup_t, PM.neg_i, PM.abs_i, PM.is_nn, PM.is_bb, PM.is_in, PM.is_sn, PM.is_ln, PM.is_tn, PM.is_bn, PM.isn_nn, PM.isn_in, PM.isn_sn, PM.isn_ln, PM.isn_tn, PM.it_lst, PM.it_tup, PM.it_str, PM.ty_non, PM.ty_bl, PM.ty_int, PM.ty_str, PM.ty_lst, PM.ty_tup, PM.le_sz, PM.lt_sz, e]
  | bl b => have e : WH [.bl b] = .ok (false, .bl false) := e; unfold okN; simp only [PM.tgT, PM.tgs, PM.callE, PM.runF, PM.initE, PM.seqS, PM.asgS, PM.tgS, PM.parS, PM.appS, PM.augS, PM.dropS, PM.retS, PM.retN, PM.retV, PM.ifS, PM.forS, PM.M.thenS, PM.M.bind, PM.M.lift, PM.ret, PM.cst, PM.var, PM.pvar, PM.pk, PM.bin, PM.asB, PM.tru, PM.tand, PM.tor, PM.tnot, PM.vand, PM.vor, PM.vnot, PM.iff, PM.sli, PM.ono, PM.oin, PM.acons, PM.anil, PM.cnil, PM.cval, PM.cvw, PM.lstE, PM.tupE, PM.blt, PM.isi, PM.una, PM.smE, PM.src, PM.rng1, PM.rng2, PM.skip, PM.brkS, PM.cntS, PM.tgN, PM.wpS, PM.wipeE, PM.chn, PM.setS, PM.yes, PM.extS, PM.enumA, PM.zipA, PM.zipTA, PM.clean, PM.lcE, PM.lenSetE, List.length_cons, List.length_nil, List.getElem?_cons_zero, List.getElem?_cons_succ, List.set_cons_zero, List.set_cons_succ, List.map_cons, List.map_nil, List.cons_append, List.nil_append, List.append_nil, List.replicate, List.length_map, List.length_append, List.length_range, if_true, if_false, ite_true, ite_false, reduceIte, Bool.false_eq_true, decide_eq_true_eq, Option.map_some, Option.map_none, Option.bind_some, Option.bind_none, Option.some.injEq, Option.join, List.isEmpty_cons, List.isEmpty_nil, List.all_cons, List.all_nil, PM.owned, PM.noLS, PM.noL, PM.noLs, Bool.or_true, Bool.true_or, Bool.or_false, Bool.false_or, Bool.and_true, Bool.true_and, Bool.and_false, Bool.false_and, Bool.not_true, Bool.not_false, Bool.not_not, PM.Ty.sub, PM.sub_self, reduceCtorEq, decide_true, decide_false, eq_self, Nat.zero_add, Nat.reduceAdd, Nat.reduceSub, Nat.reduceLT, Nat.reduceEqDiff, Nat.reduceLeDiff, Int.toNat_natCast, PM.truth_non, PM.truth_bl, PM.truth_int, PM.truth_str, PM.truth_lst, PM.truth_tup, PM.add_ii, PM.add_ss, PM.add_ll, PM.add_tt, PM.addI_ii, PM.addI_ss, PM.sub_ii, PM.mul_l, PM.mul_r, PM.fdiv_ii, PM.mod_ii, PM.lt_ii, PM.le_ii, PM.gt_ii, PM.ge_ii, PM.eq_ii, PM.ne_ii, PM.eq_ss, PM.ne_ss, PM.ix_lst, PM.ix_tup, PM.ix_str, PM.sl_lst, PM.sl_tup, PM.sl_str, PM.len_str, PM.len_lst, PM.len_tup, PM.int_i, PM.intA_i, PM.list_l, PM.list_t, PM.tup_l, PM.tup_t, PM.neg_i, PM.abs_i, PM.is_nn, PM.is_bb, PM.is_in, PM.is_sn, PM.is_ln, PM.is_tn, PM.is_bn, PM.isn_nn, PM.isn_in, PM.isn_sn, PM.isn_ln, PM.isn_tn, PM.it_lst, PM.it_tup, PM.it_str, PM.ty_non, PM.ty_bl, PM.ty_int, PM.ty_str, PM.ty_lst, PM.ty_tup, PM.le_sz, PM.lt_sz, e]
  | str s => have e : WH [.str s] = .ok (false, .bl false) := e; unfold okN; simp only [PM.tgT, PM.tgs, PM.callE, PM.runF, PM.initE, PM.seqS, PM.asgS, PM.tgS, PM.parS, PM.appS, PM.augS, PM.dropS, PM.retS, PM.retN, PM.retV, PM.ifS, PM.forS, PM.M.thenS, PM.M.bind, PM.M.lift, PM.ret, PM.cst, PM.var, PM.pvar, PM.pk, PM.bin, PM.asB, PM.tru, PM.tand, PM.tor, PM.tnot, PM.vand, PM.vor, PM.vnot, PM.iff, PM.sli, PM.ono, PM.oin, PM.acons, PM.anil, PM.cnil, PM.cval, PM.cvw, PM.lstE, PM.tupE, PM.blt, PM.isi, PM.una, PM.smE, PM.src, PM.rng1, PM.rng2, PM.skip, PM.brkS, PM.cntS, PM.tgN, PM.wpS, PM.wipeE, PM.chn, PM.setS, PM.yes, PM.extS, PM.enumA, PM.zipA, PM.zipTA, PM.clean, PM.lcE, PM.lenSetE, List.length_cons, List.length_nil, List.getElem?_cons_zero, List.getElem?_cons_succ, List.set_cons_zero, List.set_cons_succ, List.map_cons, List.map_nil, List.cons_append, List.nil_append, List.append_nil, List.replicate, List.length_map, List.length_append, List.length_range, if_true, if_false, ite_true, ite_false, reduceIte, Bool.false_eq_true, decide_eq_true_eq, Option.map_some, Option.map_none, Option.bind_some, Option.bind_none, Option.some.injEq, Option.join, List.isEmpty_cons, List.isEmpty_nil, List.all_cons, List.all_nil, PM.owned, PM.noLS, PM.noL, PM.noLs, Bool.or_true, Bool.true_or, Bool.or_false, Bool.false_or, Bool.and_true, Bool.true_and, Bool.and_false, Bool.false_and, Bool.not_true, Bool.not_false, Bool.not_not, PM.Ty.sub, PM.sub_self, reduceCtorEq, decide_true, decide_false, eq_self, Nat.zero_add, Nat.reduceAdd, Nat.reduceSub, Nat.reduceLT, Nat.reduceEqDiff, Nat.reduceLeDiff, Int.toNat_natCast, PM.truth_non, PM.truth_bl, PM.truth_int, PM.truth_str, PM.truth_lst, PM.truth_tup, PM.add_ii, PM.add_ss, PM.add_ll, PM.add_tt, PM.addI_ii, PM.addI_ss, PM.sub_ii, PM.mul_l, PM.mul_r, PM.fdiv_ii, PM.mod_ii, PM.lt_ii, PM.le_ii, PM.gt_ii, PM.ge_ii, PM.eq_ii, PM.ne_ii, PM.eq_ss, PM.ne_ss, PM.ix_lst, PM.ix_tup, PM.ix_str, PM.sl_lst, PM.sl_tup, PM.sl_str, PM.len_str, PM.len_lst, PM.len_tup, PM.int_i, PM.intA_i, PM.list_l, PM.list_t, PM.tup_l, PM.tup_t, PM.neg_i, PM.abs_i, PM.is_nn, PM.is_bb, PM.is_in, PM.is_sn, PM.is_ln, PM.is_tn, PM.is_bn, PM.isn_nn, PM.isn_in, PM.isn_sn, PM.isn_ln, PM.isn_tn, PM.it_lst, PM.it_tup, PM.it_str, PM.ty_non, PM.ty_bl, PM.ty_int, PM.ty_str, PM.ty_lst, PM.ty_tup, PM.le_sz, PM.lt_sz, e]
  | lst a => have e : WH [.lst a] = .ok (false, .bl false) := e; unfold okN; simp only [PM.tgT, PM.tgs, PM.callE, PM.runF, PM.initE, PM.seqS, PM.asgS, PM.tgS, PM.parS, PM.appS, PM.augS, PM.dropS, PM.retS, PM.retN, PM.retV, PM.ifS, PM.forS, PM.M.thenS, PM.M.bind, PM.M.lift, PM.ret, PM.cst, PM.var, PM.pvar, PM.pk, PM.bin, PM.asB, PM.tru, PM.tand, PM.tor, PM.tnot, PM.vand, PM.vor, PM.vnot, PM.iff, PM.sli, PM.ono, PM.oin, PM.acons, PM.anil, PM.cnil, PM.cval, PM.cvw, PM.lstE, PM.tupE, PM.blt, PM.isi, PM.una, PM.smE, PM.src, PM.rng1, PM.rng2, PM.skip, PM.brkS, PM.cntS, PM.tgN, PM.wpS, PM.wipeE, PM.chn, PM.setS, PM.yes, PM.extS, PM.enumA, PM.zipA, PM.zipTA, PM.clean, PM.lcE, PM.lenSetE, List.length_cons, List.length_nil, List.getElem?_cons_zero, List.getElem?_cons_succ, List.set_cons_zero, List.set_cons_succ, List.map_cons, List.map_nil, List.cons_append, List.nil_append, List.append_nil, List.replicate, List.length_map, List.length_append, List.length_range, if_true, if_false, ite_true, ite_false, reduceIte, Bool.false_eq_true, decide_eq_true_eq, Option.map_some, Option.map_none, Option.bind_some, Option.bind_none, Option.some.injEq, Option.join, List.isEmpty_cons, List.isEmpty_nil, List.all_cons, List.all_nil, PM.owned, PM.noLS, PM.noL, PM.noLs, Bool.or_true, Bool.true_or, Bool.or_false, Bool.false_or, Bool.and_true, Bool.true_and, Bool.and_false, Bool.false_and, Bool.not_true, Bool.not_false, Bool.not_not, PM.Ty.sub, PM.sub_self, reduceCtorEq, decide_true, decide_false, eq_self, Nat.zero_add, Nat.reduceAdd, Nat.reduceSub, Nat.reduceLT, Nat.reduceEqDiff, Nat.reduceLeDiff, Int.toNat_natCast, PM.truth_non, PM.truth_bl, PM.truth_int, PM.truth_str, PM.truth_lst, PM.truth_tup, PM.add_ii, PM.add_ss, PM.add_ll, PM.add_tt, PM.addI_ii, PM.addI_ss, PM.sub_ii, PM.mul_l, PM.mul_r, PM.fdiv_ii, PM.mod_ii, PM.lt_ii, PM.le_ii, PM.gt_ii, PM.ge_ii, PM.eq_ii, PM.ne_ii, PM.eq_ss, PM.ne_ss, PM.ix_lst, PM.ix_tup, PM.ix_str, PM.sl_lst, PM.sl_tup, PM.sl_str, PM.len_str, PM.len_lst, PM.len_tup, PM.int_i, PM.intA_i, PM.list_l, PM.list_t, PM.tup_l, PM.tup_t, PM.neg_i, PM.abs_i, PM.is_nn, PM.is_bb, PM.is_in, PM.is_sn, PM.is_ln, PM.is_tn, PM.is_bn, PM.isn_nn, PM.isn_in, PM.isn_sn, PM.isn_ln, PM.isn_tn, PM.it_lst, PM.it_tup, PM.it_str, PM.ty_non, PM.ty_bl, PM.ty_int, PM.ty_str, PM.ty_lst, PM.ty_tup, PM.le_sz, PM.lt_sz, e]
  | tup a => have e : WH [.tup a] = .ok (false, .bl false) := e; unfold okN; simp only [PM.tgT, PM.tgs, PM.callE, PM.runF, PM.initE, PM.seqS, PM.asgS, PM.tgS, PM.parS, PM.appS, PM.augS, PM.dropS, PM.retS, PM.retN, PM.retV, PM.ifS, PM.forS, PM.M.thenS, PM.M.bind, PM.M.lift, PM.ret, PM.cst, PM.var, PM.pvar, PM.pk, PM.bin, PM.asB, PM.tru, PM.tand, PM.tor, PM.tnot, PM.vand, PM.vor, PM.vnot, PM.iff, PM.sli, PM.ono, PM.oin, PM.acons, PM.anil, PM.cnil, PM.cval, PM.cvw, PM.lstE, PM.tupE, PM.blt, PM.isi, PM.una, PM.smE, PM.src, PM.rng1, PM.rng2, PM.skip, PM.brkS, PM.cntS, PM.tgN, PM.wpS, PM.wipeE, PM.chn, PM.setS, PM.yes, PM.extS, PM.enumA, PM.zipA, PM.zipTA, PM.clean, PM.lcE, PM.lenSetE, List.length_cons, List.length_nil, List.getElem?_cons_zero, List.getElem?_cons_succ, List.set_cons_zero, List.set_cons_succ, List.map_cons, List.map_nil, List.cons_append, List.nil_append, List.append_nil, List.replicate, List.length_map, List.length_append, List.length_range, if_true, if_false, ite_true, ite_false, reduceIte, Bool.false_eq_true, decide_eq_true_eq, Option.map_some, Option.map_none, Option.bind_some, Option.bind_none, Option.some.injEq, Option.join, List.isEmpty_cons, List.isEmpty_nil, List.all_cons, List.all_nil, PM.owned, PM.noLS, PM.noL, PM.noLs, Bool.or_true, Bool.true_or, Bool.or_false, Bool.false_or, Bool.and_true, Bool.true_and, Bool.and_false, Bool.false_and, Bool.not_true, Bool.not_false, Bool.not_not, PM.Ty.sub, PM.sub_self, reduceCtorEq, decide_true, decide_false, eq_self, Nat.zero_add, Nat.reduceAdd, Nat.reduceSub, Nat.reduceLT, Nat.reduceEqDiff, Nat.reduceLeDiff, Int.toNat_natCast, PM.truth_non, PM.truth_bl, PM.truth_int, PM.truth_str, PM.truth_lst, PM.truth_tup, PM.add_ii, PM.add_ss, PM.add_ll, PM.add_tt, PM.addI_ii, PM.addI_ss, PM.sub_ii, PM.mul_l, PM.mul_r, PM.fdiv_ii, PM.mod_ii, PM.lt_ii, PM.le_ii, PM.gt_ii, PM.ge_ii, PM.eq_ii, PM.ne_ii, PM.eq_ss, PM.ne_ss, PM.ix_lst, PM.ix_tup, PM.ix_str, PM.sl_lst, PM.sl_tup, PM.sl_str, PM.len_str, PM.len_lst, PM.len_tup, PM.int_i, PM.intA_i, PM.list_l, PM.list_t, PM.tup_l, PM.tup_t, PM.neg_i, PM.abs_i, PM.is_nn, PM.is_bb, PM.is_in, PM.is_sn, PM.is_ln, PM.is_tn, PM.is_bn, PM.isn_nn, PM.isn_in, PM.isn_sn, PM.isn_ln, PM.isn_tn, PM.it_lst, PM.it_tup, PM.it_str, PM.ty_non, PM.ty_bl, PM.ty_int, PM.ty_str, PM.ty_lst, PM.ty_tup, PM.le_sz, PM.lt_sz, e]
  | _ => unfold niceD at h; cases h
theorem has_ok {v : D} (h : niceD v = true) : M_has_fields [v] = .ok (false, .bl (fldB v)) := by
  cases v with
  | non => rfl
  | bl b => rfl
  | int i => rfl
  | str s => rfl
  | lst a => rfl
  | tup ds =>
    unfold niceD at h
    obtain ⟨h1, h2⟩ := Bool.and_eq_true_iff.mp h
    have h1 := of_decide_eq_true h1
    have q := ne_ii (i := (ds.length : Int)) (j := ((9 : Nat) : Int))
    refine run_rt rfl ?_
    unfold S_has_fields
    show _ = SOut.rt (false, D.bl (decide (ds.length = 9) && ds.all okN))
    by_cases hl : ds.length = 9
    · rw [decide_eq_true (show (ds.length : Int) = ((9 : Nat) : Int) by rw [hl])] at q
      rw [decide_eq_true hl, Bool.true_and]
      have x : X1_has_fields [some (false, .tup ds), none] = .ok (true, .lst (ds.map fun d => D.bl (okN d))) [some (false, .tup ds), none] := by
        unfold X1_has_fields
        refine lc_ok (ds := ds) (ρ1 := [some (false, .tup ds), none]) rfl rfl (Nat.lt_of_le_of_lt h1 (by decide)) ?_
        have := comp_map (T := tgN 1) (G := yes) (E := C1_has_fields) (vs := [1]) (ρ := [some (false, .tup ds), none]) id (fun d => D.bl (okN d)) ds fun d hd =>
          ⟨[some (false, .tup ds), some (false, d)], [some (false, .tup ds), some (false, d)], [some (false, .tup ds), some (false, d)], rfl, rfl, hf_one (WH := M_is_whole) (nice_mem h2 d hd) (whole_ok (nice_mem h2 d hd)), rfl⟩
        rw [List.map_id] at this
        exact this
      have a := all_map okN ds
      refine go (ρ1 := [some (false, .tup ds), none]) ?_ ?_
      · have q : neD (.int (ds.length : Int)) (.int ((9 : Nat) : Int)) = some (false, .bl (!true)) := q
        simp only [PM.tgT, PM.tgs, PM.callE, PM.runF, PM.initE, PM.seqS, PM.asgS, PM.tgS, PM.parS, PM.appS, PM.augS, PM.dropS, PM.retS, PM.retN, PM.retV, PM.ifS, PM.forS, PM.M.thenS, PM.M.bind, PM.M.lift, PM.ret, PM.cst, PM.var, PM.pvar, PM.pk, PM.bin, PM.asB, PM.tru, PM.tand, PM.tor, PM.tnot, PM.vand, PM.vor, PM.vnot, PM.iff, PM.sli, PM.ono, PM.oin, PM.acons, PM.anil, PM.cnil, PM.cval, PM.cvw, PM.lstE, PM.tupE, PM.blt, PM.isi, PM.una, PM.smE, PM.src, PM.rng1, PM.rng2, PM.skip, PM.brkS, PM.cntS, PM.tgN, PM.wpS, PM.wipeE, PM.chn, PM.setS, PM.yes, PM.extS, PM.enumA, PM.zipA, PM.zipTA, PM.clean, PM.lcE, PM.lenSetE, List.length_cons, List.length_nil, List.getElem?_cons_zero, List.getElem?_cons_succ, List.set_cons_zero, List.set_cons_succ, List.map_cons, List.map_nil, List.cons_append, List.nil_append, List.append_nil, List.replicate, List.length_map, List.length_append, List.length_range, if_true, if_false, ite_true, ite_false, reduceIte, Bool.false_eq_true, decide_eq_true_eq, Option.map_some, Option.map_none, Option.bind_some, Option.bind_none, Option.some.injEq, Option.join, List.isEmpty_cons, List.isEmpty_nil, List.all_cons, List.all_nil, PM.owned, PM.noLS, PM.noL, PM.noLs, Bool.or_true, Bool.true_or, Bool.or_false, Bool.false_or, Bool.and_true, Bool.true_and, Bool.and_false, Bool.false_and, Bool.not_true, Bool.not_false, Bool.not_not, PM.Ty.sub, PM.sub_self, reduceCtorEq, decide_true, decide_false, eq_self, Nat.zero_add, Nat.reduceAdd, Nat.reduceSub, Nat.reduceLT, Nat.reduceEqDiff, Nat.reduceLeDiff, Int.toNat_natCast, PM.ty_tup, PM.truth_bl, PM.len_tup, q]
      · generalize X1_has_fields = X at *
        simp only [PM.tgT, PM.tgs, PM.callE, PM.runF, PM.initE, PM.seqS, PM.asgS, PM.tgS, PM.parS, PM.appS, PM.augS, PM.dropS, PM.retS, PM.retN, PM.retV, PM.ifS, PM.forS, PM.M.thenS, PM.M.bind, PM.M.lift, PM.ret, PM.cst, PM.var, PM.pvar, PM.pk, PM.bin, PM.asB, PM.tru, PM.tand, PM.tor, PM.tnot, PM.vand, PM.vor, PM.vnot, PM.iff, PM.sli, PM.ono, PM.oin, PM.acons, PM.anil, PM.cnil, PM.cval, PM.cvw, PM.lstE, PM.tupE, PM.blt, PM.isi, PM.una, PM.smE, PM.src, PM.rng1, PM.rng2, PM.skip, PM.brkS, PM.cntS, PM.tgN, PM.wpS, PM.wipeE, PM.chn, PM.setS, PM.yes, PM.extS, PM.enumA, PM.zipA, PM.zipTA, PM.clean, PM.lcE, PM.lenSetE, List.length_cons, List.length_nil, List.getElem?_cons_zero, List.getElem?_cons_succ, List.set_cons_zero, List.set_cons_succ, List.map_cons, List.map_nil, List.cons_append, List.nil_append, List.append_nil, List.replicate, List.length_map, List.length_append, List.length_range, if_true, if_false, ite_true, ite_false, reduceIte, Bool.false_eq_true, decide_eq_true_eq, Option.map_some, Option.map_none, Option.bind_some, Option.bind_none, Option.some.injEq, Option.join, List.isEmpty_cons, List.isEmpty_nil, List.all_cons, List.all_nil, PM.owned, PM.noLS, PM.noL, PM.noLs, Bool.or_true, Bool.true_or, Bool.or_false, Bool.false_or, Bool.and_true, Bool.true_and, Bool.and_false, Bool.false_and, Bool.not_true, Bool.not_false, Bool.not_not, PM.Ty.sub, PM.sub_self, reduceCtorEq, decide_true, decide_false, eq_self, Nat.zero_add, Nat.reduceAdd, Nat.reduceSub, Nat.reduceLT, Nat.reduceEqDiff, Nat.reduceLeDiff, Int.toNat_natCast, x, a]
    · rw [decide_eq_false (show ¬ (ds.length : Int) = ((9 : Nat) : Int) by omega)] at q
      rw [decide_eq_false hl, Bool.false_and]
      refine PM.seq_rt ?_
      have q : neD (.int (ds.length : Int)) (.int ((9 : Nat) : Int)) = some (false, .bl (!false)) := q
      simp only [PM.tgT, PM.tgs, PM.callE, PM.runF, PM.initE, PM.seqS, PM.asgS, PM.tgS, PM.parS, PM.appS, PM.augS, PM.dropS, PM.retS, PM.retN, PM.retV, PM.ifS, PM.forS, PM.M.thenS, PM.M.bind, PM.M.lift, PM.ret, PM.cst, PM.var, PM.pvar, PM.pk, PM.bin, PM.asB, PM.tru, PM.tand, PM.tor, PM.tnot, PM.vand, PM.vor, PM.vnot, PM.iff, PM.sli, PM.ono, PM.oin, PM.acons, PM.anil, PM.cnil, PM.cval, PM.cvw, PM.lstE, PM.tupE, PM.blt, PM.isi, PM.una, PM.smE, PM.src, PM.rng1, PM.rng2, PM.skip, PM.brkS, PM.cntS, PM.tgN, PM.wpS, PM.wipeE, PM.chn, PM.setS, PM.yes, PM.extS, PM.enumA, PM.zipA, PM.zipTA, PM.clean, PM.lcE, PM.lenSetE, List.length_cons, List.length_nil, List.getElem?_cons_zero, List.getElem?_cons_succ, List.set_cons_zero, List.set_cons_succ, List.map_cons, List.map_nil, List.cons_append, List.nil_append, List.append_nil, List.replicate, List.length_map, List.length_append, List.length_range, if_true, if_false, ite_true, ite_false, reduceIte, Bool.false_eq_true, decide_eq_true_eq, Option.map_some, Option.map_none, Option.bind_some, Option.bind_none, Option.some.injEq, Option.join, List.isEmpty_cons, List.isEmpty_nil, List.all_cons, List.all_nil, PM.owned, PM.noLS, PM.noL, PM.noLs, Bool.or_true, Bool.true_or, Bool.or_false, Bool.false_or, Bool.and_true, Bool.true_and, Bool.and_false, Bool.false_and, Bool.not_true, Bool.not_false, Bool.not_not, PM.Ty.sub, PM.sub_self, reduceCtorEq, decide_true, decide_false, eq_self, Nat.zero_add, Nat.reduceAdd, Nat.reduceSub, Nat.reduceLT, Nat.reduceEqDiff, Nat.reduceLeDiff, Int.toNat_natCast, PM.ty_tup, PM.truth_bl, PM.len_tup, q]
  | _ => unfold niceD at h; cases h
/-! ### the first that is wrong -/
def fP (p : List Nat × Bool) : D := .tup [.str p.1, .bl p.2]
def eW (s9 x y : Option Slot) : PM.Env := [none, none, none, none, none, none, none, none, none, s9, x, y]
theorem fw_loop : ∀ (P : List (List Nat × Bool)) (s9 x y : Option Slot), (firstP P = none ∧ ∃ s9' x' y', forF (tgT [(tgN 10), (tgN 11)]) L1_first_wrong (P.map fP) (eW s9 x y) = .nx (eW s9' x' y')) ∨ (∃ n, firstP P = some n ∧ forF (tgT [(tgN 10), (tgN 11)]) L1_first_wrong (P.map fP) (eW s9 x y) = .rt (false, .str n))
  | [], s9, x, y => .inl ⟨rfl, s9, x, y, rfl⟩
  | (n, b) :: P, s9, x, y => by
    have t : ∀ s9 x y, tgT [(tgN 10), (tgN 11)] (fP (n, b)) (eW s9 x y) = some (eW s9 (some (false, .str n)) (some (false, .bl b))) := fun _ _ _ => rfl
    cases b with
    | false =>
      rw [List.map_cons, for_go (S := L1_first_wrong) (ρ1 := eW s9 (some (false, .str n)) (some (false, .bl false))) (ρ2 := eW none none none) (t _ _ _) rfl]
      exact fw_loop P none none none
    | true =>
      refine .inr ⟨n, rfl, ?_⟩
      exact for_rt (ρ1 := eW s9 (some (false, .str n)) (some (false, .bl true))) (t _ _ _) rfl
theorem fw_list {a b c d e f : Int} (m : mulD (.int 2) (.int f) = some (false, .int (2 * f))) (g : Int) :
    wpS [1, 3, 4, 5, 6] (asgS 9 (lstE (acons (pk (bin ltD (pvar 1) (pk (cst (.int 1))))) (acons (pk (bin ltD (pvar 2) (pk (cst (.int 1))))) (acons (pk (bin ltD (pvar 3) (pk (cst (.int 1))))) (acons (pk (bin ltD (pvar 4) (pk (cst (.int 1))))) (acons (pk (bin geD (pvar 5) (pvar 3))) (acons (pk (bin geD (pk (bin mulD (pk (cst (.int 2))) (pvar 6))) (pvar 1))) anil))))))))
      [none, some (false, .int a), some (false, .int b), some (false, .int c), some (false, .int d), some (false, .int e), some (false, .int f), some (false, .int g), none, none, none, none] =
      .nx [none, none, some (false, .int b), none, none, none, none, some (false, .int g), none, some (true, .lst [.bl (decide (a < 1)), .bl (decide (b < 1)), .bl (decide (c < 1)), .bl (decide (d < 1)), .bl (decide (c ≤ e)), .bl (decide (a ≤ 2 * f))]), none, none] := by
  have z6 := limT (n := 6) (by decide)
  simp only [PM.tgT, PM.tgs, PM.callE, PM.runF, PM.initE, PM.seqS, PM.asgS, PM.tgS, PM.parS, PM.appS, PM.augS, PM.dropS, PM.retS, PM.retN, PM.retV, PM.ifS, PM.forS, PM.M.thenS, PM.M.bind, PM.M.lift, PM.ret, PM.cst, PM.var, PM.pvar, PM.pk, PM.bin, PM.asB, PM.tru, PM.tand, PM.tor, PM.tnot, PM.vand, PM.vor, PM.vnot, PM.iff, PM.sli, PM.ono, PM.oin, PM.acons, PM.anil, PM.cnil, PM.cval, PM.cvw, PM.lstE, PM.tupE, PM.blt, PM.isi, PM.una, PM.smE, PM.src, PM.rng1, PM.rng2, PM.skip, PM.brkS, PM.cntS, PM.tgN, PM.wpS, PM.wipeE, PM.chn, PM.setS, PM.yes, PM.extS, PM.enumA, PM.zipA, PM.zipTA, PM.clean, PM.lcE, PM.lenSetE, List.length_cons, List.length_nil, List.getElem?_cons_zero, List.getElem?_cons_succ, List.set_cons_zero, List.set_cons_succ, List.map_cons, List.map_nil, List.cons_append, List.nil_append, List.append_nil, List.replicate, List.length_map, List.length_append, List.length_range, if_true, if_false, ite_true, ite_false, reduceIte, Bool.false_eq_true, decide_eq_true_eq, Option.map_some, Option.map_none, Option.bind_some, Option.bind_none, Option.some.injEq, Option.join, List.isEmpty_cons, List.isEmpty_nil, List.all_cons, List.all_nil, PM.owned, PM.noLS, PM.noL, PM.noLs, Bool.or_true, Bool.true_or, Bool.or_false, Bool.false_or, Bool.and_true, Bool.true_and, Bool.and_false, Bool.false_and, Bool.not_true, Bool.not_false, Bool.not_not, PM.Ty.sub, PM.sub_self, reduceCtorEq, decide_true, decide_false, eq_self, Nat.zero_add, Nat.reduceAdd, Nat.reduceSub, Nat.reduceLT, Nat.reduceEqDiff, Nat.reduceLeDiff, Int.toNat_natCast, PM.lt_ii, PM.ge_ii, m, z6]
theorem fw_app {b g : Int} (L : List D) (z : (L.length < sizeLine) = True) :
    wpS [2, 7] (appS 9 (pk (vnot (chn leD leD (pk (cst (.int 1))) (pvar 7) (pvar 2))))) [none, none, some (false, .int b), none, none, none, none, some (false, .int g), none, some (true, .lst L), none, none] = .nx (eW (some (true, .lst (L ++ [.bl (decide (g < 1) || decide (b < g))]))) none none) := by
  unfold eW
  by_cases h1 : 1 ≤ g
  · by_cases h2 : g ≤ b
    · rw [decide_eq_false (show ¬ g < 1 by omega), decide_eq_false (show ¬ b < g by omega)]
      simp only [PM.tgT, PM.tgs, PM.callE, PM.runF, PM.initE, PM.seqS, PM.asgS, PM.tgS, PM.parS, PM.appS, PM.augS, PM.dropS, PM.retS, PM.retN, PM.retV, PM.ifS, PM.forS, PM.M.thenS, PM.M.bind, PM.M.lift, PM.ret, PM.cst, PM.var, PM.pvar, PM.pk, PM.bin, PM.asB, PM.tru, PM.tand, PM.tor, PM.tnot, PM.vand, PM.vor, PM.vnot, PM.iff, PM.sli, PM.ono, PM.oin, PM.acons, PM.anil, PM.cnil, PM.cval, PM.cvw, PM.lstE, PM.tupE, PM.blt, PM.isi, PM.una, PM.smE, PM.src, PM.rng1, PM.rng2, PM.skip, PM.brkS, PM.cntS, PM.tgN, PM.wpS, PM.wipeE, PM.chn, PM.setS, PM.yes, PM.extS, PM.enumA, PM.zipA, PM.zipTA, PM.clean, PM.lcE, PM.lenSetE, List.length_cons, List.length_nil, List.getElem?_cons_zero, List.getElem?_cons_succ, List.set_cons_zero, List.set_cons_succ, List.map_cons, List.map_nil, List.cons_append, List.nil_append, List.append_nil, List.replicate, List.length_map, List.length_append, List.length_range, if_true, if_false, ite_true, ite_false, reduceIte, Bool.false_eq_true, decide_eq_true_eq, Option.map_some, Option.map_none, Option.bind_some, Option.bind_none, Option.some.injEq, Option.join, List.isEmpty_cons, List.isEmpty_nil, List.all_cons, List.all_nil, PM.owned, PM.noLS, PM.noL, PM.noLs, Bool.or_true, Bool.true_or, Bool.or_false, Bool.false_or, Bool.and_true, Bool.true_and, Bool.and_false, Bool.false_and, Bool.not_true, Bool.not_false, Bool.not_not, PM.Ty.sub, PM.sub_self, reduceCtorEq, decide_true, decide_false, eq_self, Nat.zero_add, Nat.reduceAdd, Nat.reduceSub, Nat.reduceLT, Nat.reduceEqDiff, Nat.reduceLeDiff, Int.toNat_natCast, PM.le_ii, PM.truth_bl, decide_eq_true h1, decide_eq_true h2, z]
    · rw [decide_eq_false (show ¬ g < 1 by omega), decide_eq_true (show b < g by omega)]
      simp only [PM.tgT, PM.tgs, PM.callE, PM.runF, PM.initE, PM.seqS, PM.asgS, PM.tgS, PM.parS, PM.appS, PM.augS, PM.dropS, PM.retS, PM.retN, PM.retV, PM.ifS, PM.forS, PM.M.thenS, PM.M.bind, PM.M.lift, PM.ret, PM.cst, PM.var, PM.pvar, PM.pk, PM.bin, PM.asB, PM.tru, PM.tand, PM.tor, PM.tnot, PM.vand, PM.vor, PM.vnot, PM.iff, PM.sli, PM.ono, PM.oin, PM.acons, PM.anil, PM.cnil, PM.cval, PM.cvw, PM.lstE, PM.tupE, PM.blt, PM.isi, PM.una, PM.smE, PM.src, PM.rng1, PM.rng2, PM.skip, PM.brkS, PM.cntS, PM.tgN, PM.wpS, PM.wipeE, PM.chn, PM.setS, PM.yes, PM.extS, PM.enumA, PM.zipA, PM.zipTA, PM.clean, PM.lcE, PM.lenSetE, List.length_cons, List.length_nil, List.getElem?_cons_zero, List.getElem?_cons_succ, List.set_cons_zero, List.set_cons_succ, List.map_cons, List.map_nil, List.cons_append, List.nil_append, List.append_nil, List.replicate, List.length_map, List.length_append, List.length_range, if_true, if_false, ite_true, ite_false, reduceIte, Bool.false_eq_true, decide_eq_true_eq, Option.map_some, Option.map_none, Option.bind_some, Option.bind_none, Option.some.injEq, Option.join, List.isEmpty_cons, List.isEmpty_nil, List.all_cons, List.all_nil, PM.owned, PM.noLS, PM.noL, PM.noLs, Bool.or_true, Bool.true_or, Bool.or_false, Bool.false_or, Bool.and_true, Bool.true_and, Bool.and_false, Bool.false_and, Bool.not_true, Bool.not_false, Bool.not_not, PM.Ty.sub, PM.sub_self, reduceCtorEq, decide_true, decide_false, eq_self, Nat.zero_add, Nat.reduceAdd, Nat.reduceSub, Nat.reduceLT, Nat.reduceEqDiff, Nat.reduceLeDiff, Int.toNat_natCast, PM.le_ii, PM.truth_bl, decide_eq_true h1, decide_eq_false h2, z]
  · rw [decide_eq_true (show g < 1 by omega)]
    simp only [PM.tgT, PM.tgs, PM.callE, PM.runF, PM.initE, PM.seqS, PM.asgS, PM.tgS, PM.parS, PM.appS, PM.augS, PM.dropS, PM.retS, PM.retN, PM.retV, PM.ifS, PM.forS, PM.M.thenS, PM.M.bind, PM.M.lift, PM.ret, PM.cst, PM.var, PM.pvar, PM.pk, PM.bin, PM.asB, PM.tru, PM.tand, PM.tor, PM.tnot, PM.vand, PM.vor, PM.vnot, PM.iff, PM.sli, PM.ono, PM.oin, PM.acons, PM.anil, PM.cnil, PM.cval, PM.cvw, PM.lstE, PM.tupE, PM.blt, PM.isi, PM.una, PM.smE, PM.src, PM.rng1, PM.rng2, PM.skip, PM.brkS, PM.cntS, PM.tgN, PM.wpS, PM.wipeE, PM.chn, PM.setS, PM.yes, PM.extS, PM.enumA, PM.zipA, PM.zipTA, PM.clean, PM.lcE, PM.lenSetE, List.length_cons, List.length_nil, List.getElem?_cons_zero, List.getElem?_cons_succ, List.set_cons_zero, List.set_cons_succ, List.map_cons, List.map_nil, List.cons_append, List.nil_append, List.append_nil, List.replicate, List.length_map, List.length_append, List.length_range, if_true, if_false, ite_true, ite_false, reduceIte, Bool.false_eq_true, decide_eq_true_eq, Option.map_some, Option.map_none, Option.bind_some, Option.bind_none, Option.some.injEq, Option.join, List.isEmpty_cons, List.isEmpty_nil, List.all_cons, List.all_nil, PM.owned, PM.noLS, PM.noL, PM.noLs, Bool.or_true, Bool.true_or, Bool.or_false, Bool.false_or, Bool.and_true, Bool.true_and, Bool.and_false, Bool.false_and, Bool.not_true, Bool.not_false, Bool.not_not, PM.Ty.sub, PM.sub_self, reduceCtorEq, decide_true, decide_false, eq_self, Nat.zero_add, Nat.reduceAdd, Nat.reduceSub, Nat.reduceLT, Nat.reduceEqDiff, Nat.reduceLeDiff, Int.toNat_natCast, PM.le_ii, PM.truth_bl, decide_eq_false h1, z]
theorem fw_ok (a b c d e f g h i : Int) : M_first_wrong [.tup [.int a, .int b, .int c, .int d, .int e, .int f, .int g, .int h, .int i]] = .ok (false, rsD (firstP (whyP a b c d e f g))) := by
  have y2 := fw_list (a := a) (b := b) (c := c) (d := d) (e := e) (f := f) (mul_l (m := 0) (by decide) (by decide)) g
  have y3 := fw_app (b := b) (g := g) [.bl (decide (a < 1)), .bl (decide (b < 1)), .bl (decide (c < 1)), .bl (decide (d < 1)), .bl (decide (c ≤ e)), .bl (decide (a ≤ 2 * f))] (limL (n := 6) (by decide))
  have sr : ∀ s9 : List D, zipTA (acons (pk (cst (.tup [.str [119, 105, 100, 116, 104], .str [104, 101, 105, 103, 104, 116], .str [115, 112, 97, 99, 101], .str [115, 116, 114, 101, 116, 99, 104], .str [115, 104, 114, 105, 110, 107], .str [105, 110, 100, 101, 110, 116], .str [108, 101, 97, 100, 105, 110, 103], .str [98, 114, 111, 107, 101, 110], .str [102, 111, 108, 105, 111]]))) (acons (pk (PM.var 9)) anil)) (eW (some (true, .lst s9)) none none) = .ok (zips [.str [119, 105, 100, 116, 104], .str [104, 101, 105, 103, 104, 116], .str [115, 112, 97, 99, 101], .str [115, 116, 114, 101, 116, 99, 104], .str [115, 104, 114, 105, 110, 107], .str [105, 110, 100, 101, 110, 116], .str [108, 101, 97, 100, 105, 110, 103], .str [98, 114, 111, 107, 101, 110], .str [102, 111, 108, 105, 111]] s9) (eW (some (false, .lst s9)) none none) := fun _ => rfl
  have sr := sr ([.bl (decide (a < 1)), .bl (decide (b < 1)), .bl (decide (c < 1)), .bl (decide (d < 1)), .bl (decide (c ≤ e)), .bl (decide (a ≤ 2 * f))] ++ [.bl (decide (g < 1) || decide (b < g))])
  refine run_rt rfl ?_
  unfold S_first_wrong
  refine go (ρ1 := [none, some (false, .int a), some (false, .int b), some (false, .int c), some (false, .int d), some (false, .int e), some (false, .int f), some (false, .int g), none, none, none, none]) rfl (go y2 (go y3 ?_))
  rcases fw_loop (whyP a b c d e f g) (some (false, .lst ([.bl (decide (a < 1)), .bl (decide (b < 1)), .bl (decide (c < 1)), .bl (decide (d < 1)), .bl (decide (c ≤ e)), .bl (decide (a ≤ 2 * f))] ++ [.bl (decide (g < 1) || decide (b < g))]))) none none with ⟨q, s9, x, y, e1⟩ | ⟨n, q, e1⟩
  · rw [q]
    exact go (wp_nx ((for_nx sr).trans e1)) rfl
  · rw [q]
    exact PM.seq_rt (wp_rt ((for_nx sr).trans e1))
end LawW

namespace LawW
open PySem L2 PM
theorem fld_yes {v : D} (h : fldB v = true) : ∃ a b c d e f g h i : Int, v = .tup [.int a, .int b, .int c, .int d, .int e, .int f, .int g, .int h, .int i] ∧ rsn v = firstP (whyP a b c d e f g) := by
  cases v with
  | tup ds =>
    have h : (decide (ds.length = 9) && ds.all okN) = true := h
    obtain ⟨h1, h2⟩ := Bool.and_eq_true_iff.mp h
    have h1 := of_decide_eq_true h1
    have int : ∀ d, okN d = true → ∃ i, d = .int i := fun d h => by
      cases d with
      | int i => exact ⟨i, rfl⟩
      | _ => unfold okN at h; cases h
    match ds, h1 with
    | [d1, d2, d3, d4, d5, d6, d7, d8, d9], _ =>
      have m := List.all_eq_true.mp h2
      obtain ⟨a, rfl⟩ := int d1 (m _ (by simp))
      obtain ⟨b, rfl⟩ := int d2 (m _ (by simp))
      obtain ⟨c, rfl⟩ := int d3 (m _ (by simp))
      obtain ⟨d, rfl⟩ := int d4 (m _ (by simp))
      obtain ⟨e, rfl⟩ := int d5 (m _ (by simp))
      obtain ⟨f, rfl⟩ := int d6 (m _ (by simp))
      obtain ⟨g, rfl⟩ := int d7 (m _ (by simp))
      obtain ⟨h8, rfl⟩ := int d8 (m _ (by simp))
      obtain ⟨i, rfl⟩ := int d9 (m _ (by simp))
      exact ⟨a, b, c, d, e, f, g, h8, i, rfl, if_pos h2⟩
  | _ => cases h
theorem fld_no {v : D} (h : fldB v = false) : rsn v = some rForm := by
  unfold rsn
  split
  · rename_i a b c d e f g h' i
    rw [if_neg]
    intro z
    have z : fldB (.tup [.int a, .int b, .int c, .int d, .int e, .int f, .int g, .int h', .int i]) = true := z
    rw [h] at z
    cases z
  · rfl
/-! ### the law's reason -/
theorem lr_turn {v d s2 : Option Slot} {x : D} (h : niceD x = true) :
    wpS [1] (ifS (tor (tnot (tru (pk (isi .int (pvar 1))))) (tor (tru (pk (isi .bl (pvar 1)))) (tor (asB (bin ltD (pvar 1) (pk (cst (.int 0))))) (asB (bin gtD (pvar 1) (pk (cst (.int 99999)))))))) (retS (cst (.str [102, 111, 114, 109]))) skip) [v, some (false, x), s2] = if okN x = true then .nx [v, none, s2] else .rt (false, .str rForm) := by
  cases x with
  | int i =>
    unfold okN
    by_cases h1 : 0 ≤ i
    · by_cases h2 : i ≤ 99999
      · simp only [PM.tgT, PM.tgs, PM.callE, PM.runF, PM.initE, PM.seqS, PM.asgS, PM.tgS, PM.parS, PM.appS, PM.augS, PM.dropS, PM.retS, PM.retN, PM.retV, PM.ifS, PM.forS, PM.M.thenS, PM.M.bind, PM.M.lift, PM.ret, PM.cst, PM.var, PM.pvar, PM.pk, PM.bin, PM.asB, PM.tru, PM.tand, PM.tor, PM.tnot, PM.vand, PM.vor, PM.vnot, PM.iff, PM.sli, PM.ono, PM.oin, PM.acons, PM.anil, PM.cnil, PM.cval, PM.cvw, PM.lstE, PM.tupE, PM.blt, PM.isi, PM.una, PM.smE, PM.src, PM.rng1, PM.rng2, PM.skip, PM.brkS, PM.cntS, PM.tgN, PM.wpS, PM.wipeE, PM.chn, PM.setS, PM.yes, PM.extS, PM.enumA, PM.zipA, PM.zipTA, PM.clean, PM.lcE, PM.lenSetE, List.length_cons, List.length_nil, List.getElem?_cons_zero, List.getElem?_cons_succ, List.set_cons_zero, List.set_cons_succ, List.map_cons, List.map_nil, List.cons_append, List.nil_append, List.append_nil, List.replicate, List.length_map, List.length_append, List.length_range, if_true, if_false, ite_true, ite_false, reduceIte, Bool.false_eq_true, decide_eq_true_eq, Option.map_some, Option.map_none, Option.bind_some, Option.bind_none, Option.some.injEq, Option.join, List.isEmpty_cons, List.isEmpty_nil, List.all_cons, List.all_nil, PM.owned, PM.noLS, PM.noL, PM.noLs, Bool.or_true, Bool.true_or, Bool.or_false, Bool.false_or, Bool.and_true, Bool.true_and, Bool.and_false, Bool.false_and, Bool.not_true, Bool.not_false, Bool.not_not, PM.Ty.sub, PM.sub_self, reduceCtorEq, decide_true, decide_false, eq_self, Nat.zero_add, Nat.reduceAdd, Nat.reduceSub, Nat.reduceLT, Nat.reduceEqDiff, Nat.reduceLeDiff, Int.toNat_natCast, PM.truth_non, PM.truth_bl, PM.truth_int, PM.truth_str, PM.truth_lst, PM.truth_tup, PM.add_ii, PM.add_ss, PM.add_ll, PM.add_tt, PM.addI_ii, PM.addI_ss, PM.sub_ii, PM.mul_l, PM.mul_r, PM.fdiv_ii, PM.mod_ii, PM.lt_ii, PM.le_ii, PM.gt_ii, PM.ge_ii, PM.eq_ii, PM.ne_ii, PM.eq_ss, PM.ne_ss, PM.ix_lst, PM.ix_tup, PM.ix_str, PM.sl_lst, PM.sl_tup, PM.sl_str, PM.len_str, PM.len_lst, PM.len_tup, PM.int_i, PM.intA_i, PM.list_l, PM.list_t, PM.tup_l, PM.tup_t, PM.neg_i, PM.abs_i, PM.is_nn, PM.is_bb, PM.is_in, PM.is_sn, PM.is_ln, PM.is_tn, PM.is_bn, PM.isn_nn, PM.isn_in, PM.isn_sn, PM.isn_ln, PM.isn_tn, PM.it_lst, PM.it_tup, PM.it_str, PM.ty_non, PM.ty_bl, PM.ty_int, PM.ty_str, PM.ty_lst, PM.ty_tup, PM.le_sz, PM.lt_sz, decide_eq_false (show ¬ i < 0 by omega), decide_eq_false (show ¬ 99999 < i by omega), decide_eq_true h1, decide_eq_true h2]
      · simp only [PM.tgT, PM.tgs, PM.callE, PM.runF, PM.initE, PM.seqS, PM.asgS, PM.tgS, PM.parS, PM.appS, PM.augS, PM.dropS, PM.retS, PM.retN, PM.retV, PM.ifS, PM.forS, PM.M.thenS, PM.M.bind, PM.M.lift, PM.ret, PM.cst, PM.var, PM.pvar, PM.pk, PM.bin, PM.asB, PM.tru, PM.tand, PM.tor, PM.tnot, PM.vand, PM.vor, PM.vnot, PM.iff, PM.sli, PM.ono, PM.oin, PM.acons, PM.anil, PM.cnil, PM.cval, PM.cvw, PM.lstE, PM.tupE, PM.blt, PM.isi, PM.una, PM.smE, PM.src, PM.rng1, PM.rng2, PM.skip, PM.brkS, PM.cntS, PM.tgN, PM.wpS, PM.wipeE, PM.chn, PM.setS, PM.yes, PM.extS, PM.enumA, PM.zipA, PM.zipTA, PM.clean, PM.lcE, PM.lenSetE, List.length_cons, List.length_nil, List.getElem?_cons_zero, List.getElem?_cons_succ, List.set_cons_zero, List.set_cons_succ, List.map_cons, List.map_nil, List.cons_append, List.nil_append, List.append_nil, List.replicate, List.length_map, List.length_append, List.length_range, if_true, if_false, ite_true, ite_false, reduceIte, Bool.false_eq_true, decide_eq_true_eq, Option.map_some, Option.map_none, Option.bind_some, Option.bind_none, Option.some.injEq, Option.join, List.isEmpty_cons, List.isEmpty_nil, List.all_cons, List.all_nil, PM.owned, PM.noLS, PM.noL, PM.noLs, Bool.or_true, Bool.true_or, Bool.or_false, Bool.false_or, Bool.and_true, Bool.true_and, Bool.and_false, Bool.false_and, Bool.not_true, Bool.not_false, Bool.not_not, PM.Ty.sub, PM.sub_self, reduceCtorEq, decide_true, decide_false, eq_self, Nat.zero_add, Nat.reduceAdd, Nat.reduceSub, Nat.reduceLT, Nat.reduceEqDiff, Nat.reduceLeDiff, Int.toNat_natCast, PM.truth_non, PM.truth_bl, PM.truth_int, PM.truth_str, PM.truth_lst, PM.truth_tup, PM.add_ii, PM.add_ss, PM.add_ll, PM.add_tt, PM.addI_ii, PM.addI_ss, PM.sub_ii, PM.mul_l, PM.mul_r, PM.fdiv_ii, PM.mod_ii, PM.lt_ii, PM.le_ii, PM.gt_ii, PM.ge_ii, PM.eq_ii, PM.ne_ii, PM.eq_ss, PM.ne_ss, PM.ix_lst, PM.ix_tup, PM.ix_str, PM.sl_lst, PM.sl_tup, PM.sl_str, PM.len_str, PM.len_lst, PM.len_tup, PM.int_i, PM.intA_i, PM.list_l, PM.list_t, PM.tup_l, PM.tup_t, PM.neg_i, PM.abs_i, PM.is_nn, PM.is_bb, PM.is_in, PM.is_sn, PM.is_ln, PM.is_tn, PM.is_bn, PM.isn_nn, PM.isn_in, PM.isn_sn, PM.isn_ln, PM.isn_tn, PM.it_lst, PM.it_tup, PM.it_str, PM.ty_non, PM.ty_bl, PM.ty_int, PM.ty_str, PM.ty_lst, PM.ty_tup, PM.le_sz, PM.lt_sz, decide_eq_false (show ¬ i < 0 by omega), decide_eq_true (show 99999 < i by omega), decide_eq_true h1, decide_eq_false h2]
    · simp only [PM.tgT, PM.tgs, PM.callE, PM.runF, PM.initE, PM.seqS, PM.asgS, PM.tgS, PM.parS, PM.appS, PM.augS, PM.dropS, PM.retS, PM.retN, PM.retV, PM.ifS, PM.forS, PM.M.thenS, PM.M.bind, PM.M.lift, PM.ret, PM.cst, PM.var, PM.pvar, PM.pk, PM.bin, PM.asB, PM.tru, PM.tand, PM.tor, PM.tnot, PM.vand, PM.vor, PM.vnot, PM.iff, PM.sli, PM.ono, PM.oin, PM.acons, PM.anil, PM.cnil, PM.cval, PM.cvw, PM.lstE, PM.tupE, PM.blt, PM.isi, PM.una, PM.smE, PM.src, PM.rng1, PM.rng2, PM.skip, PM.brkS, PM.cntS, PM.tgN, PM.wpS, PM.wipeE, PM.chn, PM.setS, PM.yes, PM.extS, PM.enumA, PM.zipA, PM.zipTA, PM.clean, PM.lcE, PM.lenSetE, List.length_cons, List.length_nil, List.getElem?_cons_zero, List.getElem?_cons_succ, List.set_cons_zero, List.set_cons_succ, List.map_cons, List.map_nil, List.cons_append, List.nil_append, List.append_nil, List.replicate, List.length_map, List.length_append, List.length_range, if_true, if_false, ite_true, ite_false, reduceIte, Bool.false_eq_true, decide_eq_true_eq, Option.map_some, Option.map_none, Option.bind_some, Option.bind_none, Option.some.injEq, Option.join, List.isEmpty_cons, List.isEmpty_nil, List.all_cons, List.all_nil, PM.owned, PM.noLS, PM.noL, PM.noLs, Bool.or_true, Bool.true_or, Bool.or_false, Bool.false_or, Bool.and_true, Bool.true_and, Bool.and_false, Bool.false_and, Bool.not_true, Bool.not_false, Bool.not_not, PM.Ty.sub, PM.sub_self, reduceCtorEq, decide_true, decide_false, eq_self, Nat.zero_add, Nat.reduceAdd, Nat.reduceSub, Nat.reduceLT, Nat.reduceEqDiff, Nat.reduceLeDiff, Int.toNat_natCast, PM.truth_non, PM.truth_bl, PM.truth_int, PM.truth_str, PM.truth_lst, PM.truth_tup, PM.add_ii, PM.add_ss, PM.add_ll, PM.add_tt, PM.addI_ii, PM.addI_ss, PM.sub_ii, PM.mul_l, PM.mul_r, PM.fdiv_ii, PM.mod_ii, PM.lt_ii, PM.le_ii, PM.gt_ii, PM.ge_ii, PM.eq_ii, PM.ne_ii, PM.eq_ss, PM.ne_ss, PM.ix_lst, PM.ix_tup, PM.ix_str, PM.sl_lst, PM.sl_tup, PM.sl_str, PM.len_str, PM.len_lst, PM.len_tup, PM.int_i, PM.intA_i, PM.list_l, PM.list_t, PM.tup_l, PM.tup_t, PM.neg_i, PM.abs_i, PM.is_nn, PM.is_bb, PM.is_in, PM.is_sn, PM.is_ln, PM.is_tn, PM.is_bn, PM.isn_nn, PM.isn_in, PM.isn_sn, PM.isn_ln, PM.isn_tn, PM.it_lst, PM.it_tup, PM.it_str, PM.ty_non, PM.ty_bl, PM.ty_int, PM.ty_str, PM.ty_lst, PM.ty_tup, PM.le_sz, PM.lt_sz, decide_eq_true (show i < 0 by omega), decide_eq_false h1]
  | non => rfl
  | bl b => rfl
  | str s => rfl
  | lst a => rfl
  | tup a => rfl
  | _ => unfold niceD at h; cases h
theorem lr_loop {v s2 : Option Slot} : ∀ (ds : List D) (s1 : Option Slot), niceDs ds = true → (ds.all okN = true ∧ ∃ s', forF (tgN 1) L1__law_reason ds [v, s1, s2] = .nx [v, s', s2]) ∨ (ds.all okN = false ∧ forF (tgN 1) L1__law_reason ds [v, s1, s2] = .rt (false, .str rForm))
  | [], s1, _ => .inl ⟨rfl, s1, rfl⟩
  | d :: ds, s1, h => by
    unfold niceDs at h
    obtain ⟨h1, h2⟩ := Bool.and_eq_true_iff.mp h
    have t := lr_turn (v := v) (d := none) (s2 := s2) h1
    rw [List.all_cons]
    cases q : okN d with
    | true =>
      rw [q, if_pos rfl] at t
      rw [for_go (S := L1__law_reason) (ρ1 := [v, some (false, d), s2]) rfl t, Bool.true_and]
      exact lr_loop ds none h2
    | false =>
      rw [q, if_neg (by decide)] at t
      exact .inr ⟨rfl, for_rt (ρ1 := [v, some (false, d), s2]) rfl t⟩
theorem firstP_cons (n : List Nat) (b : Bool) (r : List (List Nat × Bool)) : firstP ((n, b) :: r) = if b = true then some n else firstP r := rfl
theorem lr2_turn {v : D} {k x : Int} {n : List Nat} (i : ixD v (.int k) = some (false, .int x)) :
    wpS [2] (ifS (asB (bin ltD (pk (bin ixD (pvar 0) (pk (bin ixD (pvar 2) (pk (cst (.int 0))))))) (pk (cst (.int 1))))) (retS (bin ixD (pvar 2) (pk (cst (.int 1))))) skip) [some (false, v), none, some (false, .tup [.int k, .str n])] = if decide (x < 1) = true then .rt (false, .str n) else .nx [some (false, v), none, none] := by
  have i0 : ixD (.tup [.int k, .str n]) (.int 0) = some (false, .int k) := ix_tup (at_0 _ _)
  have i1 : ixD (.tup [.int k, .str n]) (.int 1) = some (false, .str n) := ix_tup (at_1 _ _ _)
  by_cases h : x < 1
  · simp only [PM.tgT, PM.tgs, PM.callE, PM.runF, PM.initE, PM.seqS, PM.asgS, PM.tgS, PM.parS, PM.appS, PM.augS, PM.dropS, PM.retS, PM.retN, PM.retV, PM.ifS, PM.forS, PM.M.thenS, PM.M.bind, PM.M.lift, PM.ret, PM.cst, PM.var, PM.pvar, PM.pk, PM.bin, PM.asB, PM.tru, PM.tand, PM.tor, PM.tnot, PM.vand, PM.vor, PM.vnot, PM.iff, PM.sli, PM.ono, PM.oin, PM.acons, PM.anil, PM.cnil, PM.cval, PM.cvw, PM.lstE, PM.tupE, PM.blt, PM.isi, PM.una, PM.smE, PM.src, PM.rng1, PM.rng2, PM.skip, PM.brkS, PM.cntS, PM.tgN, PM.wpS, PM.wipeE, PM.chn, PM.setS, PM.yes, PM.extS, PM.enumA, PM.zipA, PM.zipTA, PM.clean, PM.lcE, PM.lenSetE, List.length_cons, List.length_nil, List.getElem?_cons_zero, List.getElem?_cons_succ, List.set_cons_zero, List.set_cons_succ, List.map_cons, List.map_nil, List.cons_append, List.nil_append, List.append_nil, List.replicate, List.length_map, List.length_append, List.length_range, if_true, if_false, ite_true, ite_false, reduceIte, Bool.false_eq_true, decide_eq_true_eq, Option.map_some, Option.map_none, Option.bind_some, Option.bind_none, Option.some.injEq, Option.join, List.isEmpty_cons, List.isEmpty_nil, List.all_cons, List.all_nil, PM.owned, PM.noLS, PM.noL, PM.noLs, Bool.or_true, Bool.true_or, Bool.or_false, Bool.false_or, Bool.and_true, Bool.true_and, Bool.and_false, Bool.false_and, Bool.not_true, Bool.not_false, Bool.not_not, PM.Ty.sub, PM.sub_self, reduceCtorEq, decide_true, decide_false, eq_self, Nat.zero_add, Nat.reduceAdd, Nat.reduceSub, Nat.reduceLT, Nat.reduceEqDiff, Nat.reduceLeDiff, Int.toNat_natCast, PM.truth_bl, PM.lt_ii, i0, i1, i, decide_eq_true h]
  · simp only [PM.tgT, PM.tgs, PM.callE, PM.runF, PM.initE, PM.seqS, PM.asgS, PM.tgS, PM.parS, PM.appS, PM.augS, PM.dropS, PM.retS, PM.retN, PM.retV, PM.ifS, PM.forS, PM.M.thenS, PM.M.bind, PM.M.lift, PM.ret, PM.cst, PM.var, PM.pvar, PM.pk, PM.bin, PM.asB, PM.tru, PM.tand, PM.tor, PM.tnot, PM.vand, PM.vor, PM.vnot, PM.iff, PM.sli, PM.ono, PM.oin, PM.acons, PM.anil, PM.cnil, PM.cval, PM.cvw, PM.lstE, PM.tupE, PM.blt, PM.isi, PM.una, PM.smE, PM.src, PM.rng1, PM.rng2, PM.skip, PM.brkS, PM.cntS, PM.tgN, PM.wpS, PM.wipeE, PM.chn, PM.setS, PM.yes, PM.extS, PM.enumA, PM.zipA, PM.zipTA, PM.clean, PM.lcE, PM.lenSetE, List.length_cons, List.length_nil, List.getElem?_cons_zero, List.getElem?_cons_succ, List.set_cons_zero, List.set_cons_succ, List.map_cons, List.map_nil, List.cons_append, List.nil_append, List.append_nil, List.replicate, List.length_map, List.length_append, List.length_range, if_true, if_false, ite_true, ite_false, reduceIte, Bool.false_eq_true, decide_eq_true_eq, Option.map_some, Option.map_none, Option.bind_some, Option.bind_none, Option.some.injEq, Option.join, List.isEmpty_cons, List.isEmpty_nil, List.all_cons, List.all_nil, PM.owned, PM.noLS, PM.noL, PM.noLs, Bool.or_true, Bool.true_or, Bool.or_false, Bool.false_or, Bool.and_true, Bool.true_and, Bool.and_false, Bool.false_and, Bool.not_true, Bool.not_false, Bool.not_not, PM.Ty.sub, PM.sub_self, reduceCtorEq, decide_true, decide_false, eq_self, Nat.zero_add, Nat.reduceAdd, Nat.reduceSub, Nat.reduceLT, Nat.reduceEqDiff, Nat.reduceLeDiff, Int.toNat_natCast, PM.truth_bl, PM.lt_ii, i0, i1, i, decide_eq_false h]
theorem lr2_loop {v : D} : ∀ (P : List (Int × Int × List Nat)) (s2 : Option Slot), (∀ p ∈ P, ixD v (.int p.1) = some (false, .int p.2.1)) →
    (firstP (P.map fun p => (p.2.2, decide (p.2.1 < 1))) = none ∧ ∃ s', forF (tgN 2) L2__law_reason (P.map fun p => .tup [.int p.1, .str p.2.2]) [some (false, v), none, s2] = .nx [some (false, v), none, s']) ∨
    (∃ n, firstP (P.map fun p => (p.2.2, decide (p.2.1 < 1))) = some n ∧ forF (tgN 2) L2__law_reason (P.map fun p => .tup [.int p.1, .str p.2.2]) [some (false, v), none, s2] = .rt (false, .str n))
  | [], s2, _ => .inl ⟨rfl, s2, rfl⟩
  | (k, x, n) :: P, s2, h => by
    have t := lr2_turn (n := n) (h _ List.mem_cons_self)
    have t : L2__law_reason [some (false, v), none, some (false, .tup [.int k, .str n])] = if decide (x < 1) = true then .rt (false, .str n) else .nx [some (false, v), none, none] := t
    have f1 : firstP (((k, x, n) :: P).map fun p => (p.2.2, decide (p.2.1 < 1))) = if decide (x < 1) = true then some n else firstP (P.map fun p => (p.2.2, decide (p.2.1 < 1))) := rfl
    rw [f1]
    by_cases hx : x < 1
    · rw [decide_eq_true hx] at t ⊢
      rw [if_pos rfl] at t
      exact .inr ⟨n, if_pos rfl, for_rt (ρ1 := [some (false, v), none, some (false, .tup [.int k, .str n])]) rfl t⟩
    · rw [decide_eq_false hx] at t ⊢
      rw [if_neg (by decide)] at t ⊢
      rw [List.map_cons, for_go (S := L2__law_reason) (ρ1 := [some (false, v), none, some (false, .tup [.int k, .str n])]) rfl t]
      exact lr2_loop P none fun p hp => h p (List.mem_cons_of_mem _ hp)
theorem first_app : ∀ (P Q : List (List Nat × Bool)), firstP (P ++ Q) = match firstP P with | some n => some n | none => firstP Q
  | [], Q => rfl
  | (n, b) :: P, Q => by
    rw [List.cons_append, firstP_cons, firstP_cons, first_app P Q]
    cases b with
    | true => rfl
    | false => rfl
theorem t4_r {v : D} {c e : Int} {s : Option Slot} (i2 : ixD v (.int 2) = some (false, .int c)) (i4 : ixD v (.int 4) = some (false, .int e)) : T4__law_reason [some (false, v), none, s] = if decide (c ≤ e) = true then .rt (false, .str rShrink) else .nx [some (false, v), none, s] := by
  unfold T4__law_reason
  by_cases h : c ≤ e
  · simp only [PM.tgT, PM.tgs, PM.callE, PM.runF, PM.initE, PM.seqS, PM.asgS, PM.tgS, PM.parS, PM.appS, PM.augS, PM.dropS, PM.retS, PM.retN, PM.retV, PM.ifS, PM.forS, PM.M.thenS, PM.M.bind, PM.M.lift, PM.ret, PM.cst, PM.var, PM.pvar, PM.pk, PM.bin, PM.asB, PM.tru, PM.tand, PM.tor, PM.tnot, PM.vand, PM.vor, PM.vnot, PM.iff, PM.sli, PM.ono, PM.oin, PM.acons, PM.anil, PM.cnil, PM.cval, PM.cvw, PM.lstE, PM.tupE, PM.blt, PM.isi, PM.una, PM.smE, PM.src, PM.rng1, PM.rng2, PM.skip, PM.brkS, PM.cntS, PM.tgN, PM.wpS, PM.wipeE, PM.chn, PM.setS, PM.yes, PM.extS, PM.enumA, PM.zipA, PM.zipTA, PM.clean, PM.lcE, PM.lenSetE, List.length_cons, List.length_nil, List.getElem?_cons_zero, List.getElem?_cons_succ, List.set_cons_zero, List.set_cons_succ, List.map_cons, List.map_nil, List.cons_append, List.nil_append, List.append_nil, List.replicate, List.length_map, List.length_append, List.length_range, if_true, if_false, ite_true, ite_false, reduceIte, Bool.false_eq_true, decide_eq_true_eq, Option.map_some, Option.map_none, Option.bind_some, Option.bind_none, Option.some.injEq, Option.join, List.isEmpty_cons, List.isEmpty_nil, List.all_cons, List.all_nil, PM.owned, PM.noLS, PM.noL, PM.noLs, Bool.or_true, Bool.true_or, Bool.or_false, Bool.false_or, Bool.and_true, Bool.true_and, Bool.and_false, Bool.false_and, Bool.not_true, Bool.not_false, Bool.not_not, PM.Ty.sub, PM.sub_self, reduceCtorEq, decide_true, decide_false, eq_self, Nat.zero_add, Nat.reduceAdd, Nat.reduceSub, Nat.reduceLT, Nat.reduceEqDiff, Nat.reduceLeDiff, Int.toNat_natCast, PM.truth_bl, PM.ge_ii, i2, i4, decide_eq_true h]
  · simp only [PM.tgT, PM.tgs, PM.callE, PM.runF, PM.initE, PM.seqS, PM.asgS, PM.tgS, PM.parS, PM.appS, PM.augS, PM.dropS, PM.retS, PM.retN, PM.retV, PM.ifS, PM.forS, PM.M.thenS, PM.M.bind, PM.M.lift, PM.ret, PM.cst, PM.var, PM.pvar, PM.pk, PM.bin, PM.asB, PM.tru, PM.tand, PM.tor, PM.tnot, PM.vand, PM.vor, PM.vnot, PM.iff, PM.sli, PM.ono, PM.oin, PM.acons, PM.anil, PM.cnil, PM.cval, PM.cvw, PM.lstE, PM.tupE, PM.blt, PM.isi, PM.una, PM.smE, PM.src, PM.rng1, PM.rng2, PM.skip, PM.brkS, PM.cntS, PM.tgN, PM.wpS, PM.wipeE, PM.chn, PM.setS, PM.yes, PM.extS, PM.enumA, PM.zipA, PM.zipTA, PM.clean, PM.lcE, PM.lenSetE, List.length_cons, List.length_nil, List.getElem?_cons_zero, List.getElem?_cons_succ, List.set_cons_zero, List.set_cons_succ, List.map_cons, List.map_nil, List.cons_append, List.nil_append, List.append_nil, List.replicate, List.length_map, List.length_append, List.length_range, if_true, if_false, ite_true, ite_false, reduceIte, Bool.false_eq_true, decide_eq_true_eq, Option.map_some, Option.map_none, Option.bind_some, Option.bind_none, Option.some.injEq, Option.join, List.isEmpty_cons, List.isEmpty_nil, List.all_cons, List.all_nil, PM.owned, PM.noLS, PM.noL, PM.noLs, Bool.or_true, Bool.true_or, Bool.or_false, Bool.false_or, Bool.and_true, Bool.true_and, Bool.and_false, Bool.false_and, Bool.not_true, Bool.not_false, Bool.not_not, PM.Ty.sub, PM.sub_self, reduceCtorEq, decide_true, decide_false, eq_self, Nat.zero_add, Nat.reduceAdd, Nat.reduceSub, Nat.reduceLT, Nat.reduceEqDiff, Nat.reduceLeDiff, Int.toNat_natCast, PM.truth_bl, PM.ge_ii, i2, i4, decide_eq_false h]
theorem t5_r {v : D} {a f : Int} {s : Option Slot} (i0 : ixD v (.int 0) = some (false, .int a)) (i5 : ixD v (.int 5) = some (false, .int f)) (m : mulD (.int 2) (.int f) = some (false, .int (2 * f))) : T5__law_reason [some (false, v), none, s] = if decide (a ≤ 2 * f) = true then .rt (false, .str rIndent) else .nx [some (false, v), none, s] := by
  unfold T5__law_reason
  by_cases h : a ≤ 2 * f
  · simp only [PM.tgT, PM.tgs, PM.callE, PM.runF, PM.initE, PM.seqS, PM.asgS, PM.tgS, PM.parS, PM.appS, PM.augS, PM.dropS, PM.retS, PM.retN, PM.retV, PM.ifS, PM.forS, PM.M.thenS, PM.M.bind, PM.M.lift, PM.ret, PM.cst, PM.var, PM.pvar, PM.pk, PM.bin, PM.asB, PM.tru, PM.tand, PM.tor, PM.tnot, PM.vand, PM.vor, PM.vnot, PM.iff, PM.sli, PM.ono, PM.oin, PM.acons, PM.anil, PM.cnil, PM.cval, PM.cvw, PM.lstE, PM.tupE, PM.blt, PM.isi, PM.una, PM.smE, PM.src, PM.rng1, PM.rng2, PM.skip, PM.brkS, PM.cntS, PM.tgN, PM.wpS, PM.wipeE, PM.chn, PM.setS, PM.yes, PM.extS, PM.enumA, PM.zipA, PM.zipTA, PM.clean, PM.lcE, PM.lenSetE, List.length_cons, List.length_nil, List.getElem?_cons_zero, List.getElem?_cons_succ, List.set_cons_zero, List.set_cons_succ, List.map_cons, List.map_nil, List.cons_append, List.nil_append, List.append_nil, List.replicate, List.length_map, List.length_append, List.length_range, if_true, if_false, ite_true, ite_false, reduceIte, Bool.false_eq_true, decide_eq_true_eq, Option.map_some, Option.map_none, Option.bind_some, Option.bind_none, Option.some.injEq, Option.join, List.isEmpty_cons, List.isEmpty_nil, List.all_cons, List.all_nil, PM.owned, PM.noLS, PM.noL, PM.noLs, Bool.or_true, Bool.true_or, Bool.or_false, Bool.false_or, Bool.and_true, Bool.true_and, Bool.and_false, Bool.false_and, Bool.not_true, Bool.not_false, Bool.not_not, PM.Ty.sub, PM.sub_self, reduceCtorEq, decide_true, decide_false, eq_self, Nat.zero_add, Nat.reduceAdd, Nat.reduceSub, Nat.reduceLT, Nat.reduceEqDiff, Nat.reduceLeDiff, Int.toNat_natCast, PM.truth_bl, PM.ge_ii, i0, i5, m, decide_eq_true h]
  · simp only [PM.tgT, PM.tgs, PM.callE, PM.runF, PM.initE, PM.seqS, PM.asgS, PM.tgS, PM.parS, PM.appS, PM.augS, PM.dropS, PM.retS, PM.retN, PM.retV, PM.ifS, PM.forS, PM.M.thenS, PM.M.bind, PM.M.lift, PM.ret, PM.cst, PM.var, PM.pvar, PM.pk, PM.bin, PM.asB, PM.tru, PM.tand, PM.tor, PM.tnot, PM.vand, PM.vor, PM.vnot, PM.iff, PM.sli, PM.ono, PM.oin, PM.acons, PM.anil, PM.cnil, PM.cval, PM.cvw, PM.lstE, PM.tupE, PM.blt, PM.isi, PM.una, PM.smE, PM.src, PM.rng1, PM.rng2, PM.skip, PM.brkS, PM.cntS, PM.tgN, PM.wpS, PM.wipeE, PM.chn, PM.setS, PM.yes, PM.extS, PM.enumA, PM.zipA, PM.zipTA, PM.clean, PM.lcE, PM.lenSetE, List.length_cons, List.length_nil, List.getElem?_cons_zero, List.getElem?_cons_succ, List.set_cons_zero, List.set_cons_succ, List.map_cons, List.map_nil, List.cons_append, List.nil_append, List.append_nil, List.replicate, List.length_map, List.length_append, List.length_range, if_true, if_false, ite_true, ite_false, reduceIte, Bool.false_eq_true, decide_eq_true_eq, Option.map_some, Option.map_none, Option.bind_some, Option.bind_none, Option.some.injEq, Option.join, List.isEmpty_cons, List.isEmpty_nil, List.all_cons, List.all_nil, PM.owned, PM.noLS, PM.noL, PM.noLs, Bool.or_true, Bool.true_or, Bool.or_false, Bool.false_or, Bool.and_true, Bool.true_and, Bool.and_false, Bool.false_and, Bool.not_true, Bool.not_false, Bool.not_not, PM.Ty.sub, PM.sub_self, reduceCtorEq, decide_true, decide_false, eq_self, Nat.zero_add, Nat.reduceAdd, Nat.reduceSub, Nat.reduceLT, Nat.reduceEqDiff, Nat.reduceLeDiff, Int.toNat_natCast, PM.truth_bl, PM.ge_ii, i0, i5, m, decide_eq_false h]
theorem t6_r {v : D} {b g : Int} {s : Option Slot} (i1 : ixD v (.int 1) = some (false, .int b)) (i6 : ixD v (.int 6) = some (false, .int g)) : T6__law_reason [some (false, v), none, s] = if (decide (g < 1) || decide (b < g)) = true then .rt (false, .str rLeading) else .nx [none, none, s] := by
  unfold T6__law_reason
  by_cases h : g < 1
  · simp only [PM.tgT, PM.tgs, PM.callE, PM.runF, PM.initE, PM.seqS, PM.asgS, PM.tgS, PM.parS, PM.appS, PM.augS, PM.dropS, PM.retS, PM.retN, PM.retV, PM.ifS, PM.forS, PM.M.thenS, PM.M.bind, PM.M.lift, PM.ret, PM.cst, PM.var, PM.pvar, PM.pk, PM.bin, PM.asB, PM.tru, PM.tand, PM.tor, PM.tnot, PM.vand, PM.vor, PM.vnot, PM.iff, PM.sli, PM.ono, PM.oin, PM.acons, PM.anil, PM.cnil, PM.cval, PM.cvw, PM.lstE, PM.tupE, PM.blt, PM.isi, PM.una, PM.smE, PM.src, PM.rng1, PM.rng2, PM.skip, PM.brkS, PM.cntS, PM.tgN, PM.wpS, PM.wipeE, PM.chn, PM.setS, PM.yes, PM.extS, PM.enumA, PM.zipA, PM.zipTA, PM.clean, PM.lcE, PM.lenSetE, List.length_cons, List.length_nil, List.getElem?_cons_zero, List.getElem?_cons_succ, List.set_cons_zero, List.set_cons_succ, List.map_cons, List.map_nil, List.cons_append, List.nil_append, List.append_nil, List.replicate, List.length_map, List.length_append, List.length_range, if_true, if_false, ite_true, ite_false, reduceIte, Bool.false_eq_true, decide_eq_true_eq, Option.map_some, Option.map_none, Option.bind_some, Option.bind_none, Option.some.injEq, Option.join, List.isEmpty_cons, List.isEmpty_nil, List.all_cons, List.all_nil, PM.owned, PM.noLS, PM.noL, PM.noLs, Bool.or_true, Bool.true_or, Bool.or_false, Bool.false_or, Bool.and_true, Bool.true_and, Bool.and_false, Bool.false_and, Bool.not_true, Bool.not_false, Bool.not_not, PM.Ty.sub, PM.sub_self, reduceCtorEq, decide_true, decide_false, eq_self, Nat.zero_add, Nat.reduceAdd, Nat.reduceSub, Nat.reduceLT, Nat.reduceEqDiff, Nat.reduceLeDiff, Int.toNat_natCast, PM.truth_bl, PM.lt_ii, PM.gt_ii, i1, i6, decide_eq_true h]
  · by_cases h2 : b < g
    · simp only [PM.tgT, PM.tgs, PM.callE, PM.runF, PM.initE, PM.seqS, PM.asgS, PM.tgS, PM.parS, PM.appS, PM.augS, PM.dropS, PM.retS, PM.retN, PM.retV, PM.ifS, PM.forS, PM.M.thenS, PM.M.bind, PM.M.lift, PM.ret, PM.cst, PM.var, PM.pvar, PM.pk, PM.bin, PM.asB, PM.tru, PM.tand, PM.tor, PM.tnot, PM.vand, PM.vor, PM.vnot, PM.iff, PM.sli, PM.ono, PM.oin, PM.acons, PM.anil, PM.cnil, PM.cval, PM.cvw, PM.lstE, PM.tupE, PM.blt, PM.isi, PM.una, PM.smE, PM.src, PM.rng1, PM.rng2, PM.skip, PM.brkS, PM.cntS, PM.tgN, PM.wpS, PM.wipeE, PM.chn, PM.setS, PM.yes, PM.extS, PM.enumA, PM.zipA, PM.zipTA, PM.clean, PM.lcE, PM.lenSetE, List.length_cons, List.length_nil, List.getElem?_cons_zero, List.getElem?_cons_succ, List.set_cons_zero, List.set_cons_succ, List.map_cons, List.map_nil, List.cons_append, List.nil_append, List.append_nil, List.replicate, List.length_map, List.length_append, List.length_range, if_true, if_false, ite_true, ite_false, reduceIte, Bool.false_eq_true, decide_eq_true_eq, Option.map_some, Option.map_none, Option.bind_some, Option.bind_none, Option.some.injEq, Option.join, List.isEmpty_cons, List.isEmpty_nil, List.all_cons, List.all_nil, PM.owned, PM.noLS, PM.noL, PM.noLs, Bool.or_true, Bool.true_or, Bool.or_false, Bool.false_or, Bool.and_true, Bool.true_and, Bool.and_false, Bool.false_and, Bool.not_true, Bool.not_false, Bool.not_not, PM.Ty.sub, PM.sub_self, reduceCtorEq, decide_true, decide_false, eq_self, Nat.zero_add, Nat.reduceAdd, Nat.reduceSub, Nat.reduceLT, Nat.reduceEqDiff, Nat.reduceLeDiff, Int.toNat_natCast, PM.truth_bl, PM.lt_ii, PM.gt_ii, i1, i6, decide_eq_false h, decide_eq_true h2]
    · simp only [PM.tgT, PM.tgs, PM.callE, PM.runF, PM.initE, PM.seqS, PM.asgS, PM.tgS, PM.parS, PM.appS, PM.augS, PM.dropS, PM.retS, PM.retN, PM.retV, PM.ifS, PM.forS, PM.M.thenS, PM.M.bind, PM.M.lift, PM.ret, PM.cst, PM.var, PM.pvar, PM.pk, PM.bin, PM.asB, PM.tru, PM.tand, PM.tor, PM.tnot, PM.vand, PM.vor, PM.vnot, PM.iff, PM.sli, PM.ono, PM.oin, PM.acons, PM.anil, PM.cnil, PM.cval, PM.cvw, PM.lstE, PM.tupE, PM.blt, PM.isi, PM.una, PM.smE, PM.src, PM.rng1, PM.rng2, PM.skip, PM.brkS, PM.cntS, PM.tgN, PM.wpS, PM.wipeE, PM.chn, PM.setS, PM.yes, PM.extS, PM.enumA, PM.zipA, PM.zipTA, PM.clean, PM.lcE, PM.lenSetE, List.length_cons, List.length_nil, List.getElem?_cons_zero, List.getElem?_cons_succ, List.set_cons_zero, List.set_cons_succ, List.map_cons, List.map_nil, List.cons_append, List.nil_append, List.append_nil, List.replicate, List.length_map, List.length_append, List.length_range, if_true, if_false, ite_true, ite_false, reduceIte, Bool.false_eq_true, decide_eq_true_eq, Option.map_some, Option.map_none, Option.bind_some, Option.bind_none, Option.some.injEq, Option.join, List.isEmpty_cons, List.isEmpty_nil, List.all_cons, List.all_nil, PM.owned, PM.noLS, PM.noL, PM.noLs, Bool.or_true, Bool.true_or, Bool.or_false, Bool.false_or, Bool.and_true, Bool.true_and, Bool.and_false, Bool.false_and, Bool.not_true, Bool.not_false, Bool.not_not, PM.Ty.sub, PM.sub_self, reduceCtorEq, decide_true, decide_false, eq_self, Nat.zero_add, Nat.reduceAdd, Nat.reduceSub, Nat.reduceLT, Nat.reduceEqDiff, Nat.reduceLeDiff, Int.toNat_natCast, PM.truth_bl, PM.lt_ii, PM.gt_ii, i1, i6, decide_eq_false h, decide_eq_false h2]
theorem reason_ok {v : D} (hv : niceD v = true) : M__law_reason [v] = .ok (false, rsD (rsn v)) := by
  cases v with
  | non => rfl
  | bl b => rfl
  | int i => rfl
  | str s => rfl
  | lst a => rfl
  | tup ds =>
    have nv := hv
    unfold niceD at hv
    obtain ⟨h1, h2⟩ := Bool.and_eq_true_iff.mp hv
    have q := ne_ii (i := (ds.length : Int)) (j := 9)
    refine run_rt rfl ?_
    unfold S__law_reason
    by_cases hl : ds.length = 9
    · rw [decide_eq_true (show (ds.length : Int) = 9 by omega)] at q
      refine go (S1 := T1__law_reason) (ρ1 := [some (false, .tup ds), none, none]) ?_ ?_
      · unfold T1__law_reason
        show ifS _ _ _ [some (false, .tup ds), none, none] = _
        simp only [PM.tgT, PM.tgs, PM.callE, PM.runF, PM.initE, PM.seqS, PM.asgS, PM.tgS, PM.parS, PM.appS, PM.augS, PM.dropS, PM.retS, PM.retN, PM.retV, PM.ifS, PM.forS, PM.M.thenS, PM.M.bind, PM.M.lift, PM.ret, PM.cst, PM.var, PM.pvar, PM.pk, PM.bin, PM.asB, PM.tru, PM.tand, PM.tor, PM.tnot, PM.vand, PM.vor, PM.vnot, PM.iff, PM.sli, PM.ono, PM.oin, PM.acons, PM.anil, PM.cnil, PM.cval, PM.cvw, PM.lstE, PM.tupE, PM.blt, PM.isi, PM.una, PM.smE, PM.src, PM.rng1, PM.rng2, PM.skip, PM.brkS, PM.cntS, PM.tgN, PM.wpS, PM.wipeE, PM.chn, PM.setS, PM.yes, PM.extS, PM.enumA, PM.zipA, PM.zipTA, PM.clean, PM.lcE, PM.lenSetE, List.length_cons, List.length_nil, List.getElem?_cons_zero, List.getElem?_cons_succ, List.set_cons_zero, List.set_cons_succ, List.map_cons, List.map_nil, List.cons_append, List.nil_append, List.append_nil, List.replicate, List.length_map, List.length_append, List.length_range, if_true, if_false, ite_true, ite_false, reduceIte, Bool.false_eq_true, decide_eq_true_eq, Option.map_some, Option.map_none, Option.bind_some, Option.bind_none, Option.some.injEq, Option.join, List.isEmpty_cons, List.isEmpty_nil, List.all_cons, List.all_nil, PM.owned, PM.noLS, PM.noL, PM.noLs, Bool.or_true, Bool.true_or, Bool.or_false, Bool.false_or, Bool.and_true, Bool.true_and, Bool.and_false, Bool.false_and, Bool.not_true, Bool.not_false, Bool.not_not, PM.Ty.sub, PM.sub_self, reduceCtorEq, decide_true, decide_false, eq_self, Nat.zero_add, Nat.reduceAdd, Nat.reduceSub, Nat.reduceLT, Nat.reduceEqDiff, Nat.reduceLeDiff, Int.toNat_natCast, PM.truth_bl, PM.ty_tup, PM.len_tup, q]
      · rcases lr_loop (v := some (false, .tup ds)) (s2 := none) ds none h2 with ⟨k, s', e⟩ | ⟨k, e⟩
        · have hf : fldB (.tup ds) = true := by
            show (decide (ds.length = 9) && ds.all okN) = true
            rw [decide_eq_true hl, k]; rfl
          obtain ⟨a, b, c, d, e', f, g, h', i, hd, hr⟩ := fld_yes hf
          rw [hr]
          have i0 : ixD (.tup ds) (.int 0) = some (false, .int a) := by rw [hd]; rfl
          have i1 : ixD (.tup ds) (.int 1) = some (false, .int b) := by rw [hd]; rfl
          have i2 : ixD (.tup ds) (.int 2) = some (false, .int c) := by rw [hd]; rfl
          have i3 : ixD (.tup ds) (.int 3) = some (false, .int d) := by rw [hd]; rfl
          have i4 : ixD (.tup ds) (.int 4) = some (false, .int e') := by rw [hd]; rfl
          have i5 : ixD (.tup ds) (.int 5) = some (false, .int f) := by rw [hd]; rfl
          have i6 : ixD (.tup ds) (.int 6) = some (false, .int g) := by rw [hd]; rfl
          have e : forF (tgN 1) L1__law_reason ds [some (false, .tup ds), none, none] = .nx [some (false, .tup ds), s', none] := e
          have sw : s' = none := by
            cases ds with
            | nil => simp at hl
            | cons x xs =>
              have key : ∀ (l : List D) (s1 s' : Option Slot), niceDs l = true → l ≠ [] → forF (tgN 1) L1__law_reason l [some (false, .tup (x :: xs)), s1, none] = .nx [some (false, .tup (x :: xs)), s', none] → s' = none := fun l => by
                induction l with
                | nil => exact fun _ _ _ h _ => absurd rfl h
                | cons y l ih =>
                  intro s1 s' hn _ he
                  unfold niceDs at hn
                  obtain ⟨n1, n2⟩ := Bool.and_eq_true_iff.mp hn
                  have t := lr_turn (v := some (false, .tup (x :: xs))) (d := none) (s2 := none) n1
                  have t : L1__law_reason [some (false, .tup (x :: xs)), some (false, y), none] = _ := t
                  by_cases oy : okN y = true
                  · rw [if_pos oy] at t
                    rw [for_go (S := L1__law_reason) (ρ1 := [some (false, .tup (x :: xs)), some (false, y), none]) rfl t] at he
                    cases l with
                    | nil => cases he; rfl
                    | cons z l => exact ih none s' n2 (by simp) he
                  · rw [if_neg oy] at t
                    rw [for_rt (S := L1__law_reason) (ρ1 := [some (false, .tup (x :: xs)), some (false, y), none]) rfl t] at he
                    cases he
              exact key _ _ _ h2 (by simp) e
          subst sw
          refine go (S1 := T2__law_reason) (ρ1 := [some (false, .tup ds), none, none]) ((for_nx (ds := ds) (ρ1 := [some (false, .tup ds), none, none]) rfl).trans e) ?_
          have sp : whyP a b c d e' f g = ([(0, a, rWidth), (1, b, rHeight), (2, c, rSpace), (3, d, rStretch)] : List (Int × Int × List Nat)).map (fun p => (p.2.2, decide (p.2.1 < 1))) ++ [(rShrink, decide (c ≤ e')), (rIndent, decide (a ≤ 2 * f)), (rLeading, decide (g < 1) || decide (b < g))] := rfl
          rw [sp, first_app]
          rcases lr2_loop (v := .tup ds) [(0, a, rWidth), (1, b, rHeight), (2, c, rSpace), (3, d, rStretch)] none (fun p hp => by
            simp only [List.mem_cons, List.not_mem_nil, or_false] at hp
            rcases hp with rfl | rfl | rfl | rfl
            · exact i0
            · exact i1
            · exact i2
            · exact i3) with ⟨k2, s2, e2⟩ | ⟨n, k2, e2⟩
          · rw [k2]
            refine go (S1 := T3__law_reason) (ρ1 := [some (false, .tup ds), none, s2]) ((for_nx (A := src (pk (lstE (acons (pk (tupE (acons (pk (cst (.int 0))) (acons (pk (cst (.str rWidth))) anil)))) (acons (pk (tupE (acons (pk (cst (.int 1))) (acons (pk (cst (.str rHeight))) anil)))) (acons (pk (tupE (acons (pk (cst (.int 2))) (acons (pk (cst (.str rSpace))) anil)))) (acons (pk (tupE (acons (pk (cst (.int 3))) (acons (pk (cst (.str rStretch))) anil)))) anil))))))) (ds := [.tup [.int 0, .str rWidth], .tup [.int 1, .str rHeight], .tup [.int 2, .str rSpace], .tup [.int 3, .str rStretch]]) (ρ := [some (false, .tup ds), none, none]) (ρ1 := [some (false, .tup ds), none, none]) rfl).trans e2) ?_
            have y4 := t4_r (s := s2) i2 i4
            have y5 := t5_r (s := s2) i0 i5 (mul_l (m := 0) (by decide) (by decide))
            have y6 := t6_r (s := s2) i1 i6
            unfold firstP
            cases q4 : decide (c ≤ e') with
            | true =>
              rw [q4] at y4
              exact PM.seq_rt y4
            | false =>
              rw [q4] at y4
              refine go y4 ?_
              unfold firstP
              cases q5 : decide (a ≤ 2 * f) with
              | true =>
                rw [q5] at y5
                exact PM.seq_rt y5
              | false =>
                rw [q5] at y5
                refine go y5 ?_
                unfold firstP
                cases q6 : (decide (g < 1) || decide (b < g)) with
                | true =>
                  rw [q6] at y6
                  exact PM.seq_rt y6
                | false =>
                  rw [q6] at y6
                  exact go y6 rfl
          · rw [k2]
            exact PM.seq_rt (S1 := T3__law_reason) ((for_nx (A := src (pk (lstE (acons (pk (tupE (acons (pk (cst (.int 0))) (acons (pk (cst (.str rWidth))) anil)))) (acons (pk (tupE (acons (pk (cst (.int 1))) (acons (pk (cst (.str rHeight))) anil)))) (acons (pk (tupE (acons (pk (cst (.int 2))) (acons (pk (cst (.str rSpace))) anil)))) (acons (pk (tupE (acons (pk (cst (.int 3))) (acons (pk (cst (.str rStretch))) anil)))) anil))))))) (ds := [.tup [.int 0, .str rWidth], .tup [.int 1, .str rHeight], .tup [.int 2, .str rSpace], .tup [.int 3, .str rStretch]]) (ρ := [some (false, .tup ds), none, none]) (ρ1 := [some (false, .tup ds), none, none]) rfl).trans e2)
        · have hf : fldB (.tup ds) = false := by
            show (decide (ds.length = 9) && ds.all okN) = false
            rw [k, Bool.and_false]
          rw [fld_no hf]
          exact PM.seq_rt (S1 := T2__law_reason) ((for_nx (ds := ds) (ρ1 := [some (false, .tup ds), none, none]) rfl).trans e)
    · rw [decide_eq_false (show ¬ (ds.length : Int) = 9 by omega)] at q
      have hf : fldB (.tup ds) = false := by
        show (decide (ds.length = 9) && ds.all okN) = false
        rw [decide_eq_false hl, Bool.false_and]
      rw [fld_no hf]
      refine PM.seq_rt (S1 := T1__law_reason) ?_
      unfold T1__law_reason
      show ifS _ _ _ [some (false, .tup ds), none, none] = _
      simp only [PM.tgT, PM.tgs, PM.callE, PM.runF, PM.initE, PM.seqS, PM.asgS, PM.tgS, PM.parS, PM.appS, PM.augS, PM.dropS, PM.retS, PM.retN, PM.retV, PM.ifS, PM.forS, PM.M.thenS, PM.M.bind, PM.M.lift, PM.ret, PM.cst, PM.var, PM.pvar, PM.pk, PM.bin, PM.asB, PM.tru, PM.tand, PM.tor, PM.tnot, PM.vand, PM.vor, PM.vnot, PM.iff, PM.sli, PM.ono, PM.oin, PM.acons, PM.anil, PM.cnil, PM.cval, PM.cvw, PM.lstE, PM.tupE, PM.blt, PM.isi, PM.una, PM.smE, PM.src, PM.rng1, PM.rng2, PM.skip, PM.brkS, PM.cntS, PM.tgN, PM.wpS, PM.wipeE, PM.chn, PM.setS, PM.yes, PM.extS, PM.enumA, PM.zipA, PM.zipTA, PM.clean, PM.lcE, PM.lenSetE, List.length_cons, List.length_nil, List.getElem?_cons_zero, List.getElem?_cons_succ, List.set_cons_zero, List.set_cons_succ, List.map_cons, List.map_nil, List.cons_append, List.nil_append, List.append_nil, List.replicate, List.length_map, List.length_append, List.length_range, if_true, if_false, ite_true, ite_false, reduceIte, Bool.false_eq_true, decide_eq_true_eq, Option.map_some, Option.map_none, Option.bind_some, Option.bind_none, Option.some.injEq, Option.join, List.isEmpty_cons, List.isEmpty_nil, List.all_cons, List.all_nil, PM.owned, PM.noLS, PM.noL, PM.noLs, Bool.or_true, Bool.true_or, Bool.or_false, Bool.false_or, Bool.and_true, Bool.true_and, Bool.and_false, Bool.false_and, Bool.not_true, Bool.not_false, Bool.not_not, PM.Ty.sub, PM.sub_self, reduceCtorEq, decide_true, decide_false, eq_self, Nat.zero_add, Nat.reduceAdd, Nat.reduceSub, Nat.reduceLT, Nat.reduceEqDiff, Nat.reduceLeDiff, Int.toNat_natCast, PM.truth_bl, PM.ty_tup, PM.len_tup, q]
      rfl
  | _ => unfold niceD at hv; cases hv
end LawW

namespace LawW
open PySem L2 PM
/-! ### check_form, is_form -/
abbrev BF (r : List Nat) : Exn := ⟨"BadForm", [("reason", .str r)]⟩
def chkR : Option (List Nat) → FOut
  | none => .ok (false, .non)
  | some r => .exc (BF r)
theorem chk_no {HF FW : FM} {v : D} (e1 : HF [v] = .ok (false, .bl false)) :
    runF 2 1 (seqS (ifS (tnot (tru (pk (callE HF (cvw 0 cnil))))) (raiseF "BadForm" "reason" (pk (cst (.str rForm)))) skip)
  (seqS (wpS [0] (asgS 1 (callE FW (cvw 0 cnil)))) (wpS [1] (ifS (asB (bin isNotD (pvar 1) (pk (cst .non)))) (raiseF "BadForm" "reason" (pk (var 1))) skip)))) [v] = .exc (BF rForm) := by
  simp only [PM.tgT, PM.tgs, PM.callE, PM.runF, PM.initE, PM.seqS, PM.asgS, PM.tgS, PM.parS, PM.appS, PM.augS, PM.dropS, PM.retS, PM.retN, PM.retV, PM.ifS, PM.forS, PM.M.thenS, PM.M.bind, PM.M.lift, PM.ret, PM.cst, PM.var, PM.pvar, PM.pk, PM.bin, PM.asB, PM.tru, PM.tand, PM.tor, PM.tnot, PM.vand, PM.vor, PM.vnot, PM.iff, PM.sli, PM.ono, PM.oin, PM.acons, PM.anil, PM.cnil, PM.cval, PM.cvw, PM.lstE, PM.tupE, PM.blt, PM.isi, PM.una, PM.smE, PM.src, PM.rng1, PM.rng2, PM.skip, PM.brkS, PM.cntS, PM.tgN, PM.wpS, PM.wipeE, PM.chn, PM.setS, PM.yes, PM.extS, PM.enumA, PM.zipA, PM.zipTA, PM.clean, PM.lcE, PM.lenSetE, List.length_cons, List.length_nil, List.getElem?_cons_zero, List.getElem?_cons_succ, List.set_cons_zero, List.set_cons_succ, List.map_cons, List.map_nil, List.cons_append, List.nil_append, List.append_nil, List.replicate, List.length_map, List.length_append, List.length_range, if_true, if_false, ite_true, ite_false, reduceIte, Bool.false_eq_true, decide_eq_true_eq, Option.map_some, Option.map_none, Option.bind_some, Option.bind_none, Option.some.injEq, Option.join, List.isEmpty_cons, List.isEmpty_nil, List.all_cons, List.all_nil, PM.owned, PM.noLS, PM.noL, PM.noLs, Bool.or_true, Bool.true_or, Bool.or_false, Bool.false_or, Bool.and_true, Bool.true_and, Bool.and_false, Bool.false_and, Bool.not_true, Bool.not_false, Bool.not_not, PM.Ty.sub, PM.sub_self, reduceCtorEq, decide_true, decide_false, eq_self, Nat.zero_add, Nat.reduceAdd, Nat.reduceSub, Nat.reduceLT, Nat.reduceEqDiff, Nat.reduceLeDiff, Int.toNat_natCast, raiseF, PM.truth_bl, e1]
theorem chk_yes {HF FW : FM} {v : D} {o : Option (List Nat)} (e1 : HF [v] = .ok (false, .bl true)) (e2 : FW [v] = .ok (false, rsD o)) :
    runF 2 1 (seqS (ifS (tnot (tru (pk (callE HF (cvw 0 cnil))))) (raiseF "BadForm" "reason" (pk (cst (.str rForm)))) skip)
  (seqS (wpS [0] (asgS 1 (callE FW (cvw 0 cnil)))) (wpS [1] (ifS (asB (bin isNotD (pvar 1) (pk (cst .non)))) (raiseF "BadForm" "reason" (pk (var 1))) skip)))) [v] = chkR o := by
  cases o with
  | none =>
    have e2 : FW [v] = .ok (false, .non) := e2
    simp only [PM.tgT, PM.tgs, PM.callE, PM.runF, PM.initE, PM.seqS, PM.asgS, PM.tgS, PM.parS, PM.appS, PM.augS, PM.dropS, PM.retS, PM.retN, PM.retV, PM.ifS, PM.forS, PM.M.thenS, PM.M.bind, PM.M.lift, PM.ret, PM.cst, PM.var, PM.pvar, PM.pk, PM.bin, PM.asB, PM.tru, PM.tand, PM.tor, PM.tnot, PM.vand, PM.vor, PM.vnot, PM.iff, PM.sli, PM.ono, PM.oin, PM.acons, PM.anil, PM.cnil, PM.cval, PM.cvw, PM.lstE, PM.tupE, PM.blt, PM.isi, PM.una, PM.smE, PM.src, PM.rng1, PM.rng2, PM.skip, PM.brkS, PM.cntS, PM.tgN, PM.wpS, PM.wipeE, PM.chn, PM.setS, PM.yes, PM.extS, PM.enumA, PM.zipA, PM.zipTA, PM.clean, PM.lcE, PM.lenSetE, List.length_cons, List.length_nil, List.getElem?_cons_zero, List.getElem?_cons_succ, List.set_cons_zero, List.set_cons_succ, List.map_cons, List.map_nil, List.cons_append, List.nil_append, List.append_nil, List.replicate, List.length_map, List.length_append, List.length_range, if_true, if_false, ite_true, ite_false, reduceIte, Bool.false_eq_true, decide_eq_true_eq, Option.map_some, Option.map_none, Option.bind_some, Option.bind_none, Option.some.injEq, Option.join, List.isEmpty_cons, List.isEmpty_nil, List.all_cons, List.all_nil, PM.owned, PM.noLS, PM.noL, PM.noLs, Bool.or_true, Bool.true_or, Bool.or_false, Bool.false_or, Bool.and_true, Bool.true_and, Bool.and_false, Bool.false_and, Bool.not_true, Bool.not_false, Bool.not_not, PM.Ty.sub, PM.sub_self, reduceCtorEq, decide_true, decide_false, eq_self, Nat.zero_add, Nat.reduceAdd, Nat.reduceSub, Nat.reduceLT, Nat.reduceEqDiff, Nat.reduceLeDiff, Int.toNat_natCast, raiseF, chkR, PM.truth_bl, PM.isn_nn, e1, e2]
  | some r =>
    have e2 : FW [v] = .ok (false, .str r) := e2
    simp only [PM.tgT, PM.tgs, PM.callE, PM.runF, PM.initE, PM.seqS, PM.asgS, PM.tgS, PM.parS, PM.appS, PM.augS, PM.dropS, PM.retS, PM.retN, PM.retV, PM.ifS, PM.forS, PM.M.thenS, PM.M.bind, PM.M.lift, PM.ret, PM.cst, PM.var, PM.pvar, PM.pk, PM.bin, PM.asB, PM.tru, PM.tand, PM.tor, PM.tnot, PM.vand, PM.vor, PM.vnot, PM.iff, PM.sli, PM.ono, PM.oin, PM.acons, PM.anil, PM.cnil, PM.cval, PM.cvw, PM.lstE, PM.tupE, PM.blt, PM.isi, PM.una, PM.smE, PM.src, PM.rng1, PM.rng2, PM.skip, PM.brkS, PM.cntS, PM.tgN, PM.wpS, PM.wipeE, PM.chn, PM.setS, PM.yes, PM.extS, PM.enumA, PM.zipA, PM.zipTA, PM.clean, PM.lcE, PM.lenSetE, List.length_cons, List.length_nil, List.getElem?_cons_zero, List.getElem?_cons_succ, List.set_cons_zero, List.set_cons_succ, List.map_cons, List.map_nil, List.cons_append, List.nil_append, List.append_nil, List.replicate, List.length_map, List.length_append, List.length_range, if_true, if_false, ite_true, ite_false, reduceIte, Bool.false_eq_true, decide_eq_true_eq, Option.map_some, Option.map_none, Option.bind_some, Option.bind_none, Option.some.injEq, Option.join, List.isEmpty_cons, List.isEmpty_nil, List.all_cons, List.all_nil, PM.owned, PM.noLS, PM.noL, PM.noLs, Bool.or_true, Bool.true_or, Bool.or_false, Bool.false_or, Bool.and_true, Bool.true_and, Bool.and_false, Bool.false_and, Bool.not_true, Bool.not_false, Bool.not_not, PM.Ty.sub, PM.sub_self, reduceCtorEq, decide_true, decide_false, eq_self, Nat.zero_add, Nat.reduceAdd, Nat.reduceSub, Nat.reduceLT, Nat.reduceEqDiff, Nat.reduceLeDiff, Int.toNat_natCast, raiseF, chkR, PM.truth_bl, PM.isn_sn, e1, e2]
theorem check_ok {v : D} (h : niceD v = true) : M_check_form [v] = chkR (rsn v) := by
  have e1 := has_ok h
  cases q : fldB v with
  | false =>
    rw [q] at e1
    rw [fld_no q]
    exact chk_no (HF := M_has_fields) (FW := M_first_wrong) e1
  | true =>
    rw [q] at e1
    obtain ⟨a, b, c, d, e, f, g, h', i, rfl, hr⟩ := fld_yes q
    rw [hr]
    exact chk_yes (HF := M_has_fields) (FW := M_first_wrong) e1 (fw_ok a b c d e f g h' i)
theorem isf_gen {HF FW : FM} {v : D} {b : Bool} {o : Option (List Nat)} (e1 : HF [v] = .ok (false, .bl b)) (e2 : b = true → FW [v] = .ok (false, rsD o)) (hb : b = false → o ≠ none) :
    runF 1 1 (retS (vand (callE HF (cvw 0 cnil)) (bin isD (pk (callE FW (cvw 0 cnil))) (pk (cst .non))))) [v] = .ok (false, .bl o.isNone) := by
  cases b with
  | false =>
    cases o with
    | none => exact absurd rfl (hb rfl)
    | some r => simp only [PM.tgT, PM.tgs, PM.callE, PM.runF, PM.initE, PM.seqS, PM.asgS, PM.tgS, PM.parS, PM.appS, PM.augS, PM.dropS, PM.retS, PM.retN, PM.retV, PM.ifS, PM.forS, PM.M.thenS, PM.M.bind, PM.M.lift, PM.ret, PM.cst, PM.var, PM.pvar, PM.pk, PM.bin, PM.asB, PM.tru, PM.tand, PM.tor, PM.tnot, PM.vand, PM.vor, PM.vnot, PM.iff, PM.sli, PM.ono, PM.oin, PM.acons, PM.anil, PM.cnil, PM.cval, PM.cvw, PM.lstE, PM.tupE, PM.blt, PM.isi, PM.una, PM.smE, PM.src, PM.rng1, PM.rng2, PM.skip, PM.brkS, PM.cntS, PM.tgN, PM.wpS, PM.wipeE, PM.chn, PM.setS, PM.yes, PM.extS, PM.enumA, PM.zipA, PM.zipTA, PM.clean, PM.lcE, PM.lenSetE, List.length_cons, List.length_nil, List.getElem?_cons_zero, List.getElem?_cons_succ, List.set_cons_zero, List.set_cons_succ, List.map_cons, List.map_nil, List.cons_append, List.nil_append, List.append_nil, List.replicate, List.length_map, List.length_append, List.length_range, if_true, if_false, ite_true, ite_false, reduceIte, Bool.false_eq_true, decide_eq_true_eq, Option.map_some, Option.map_none, Option.bind_some, Option.bind_none, Option.some.injEq, Option.join, List.isEmpty_cons, List.isEmpty_nil, List.all_cons, List.all_nil, PM.owned, PM.noLS, PM.noL, PM.noLs, Bool.or_true, Bool.true_or, Bool.or_false, Bool.false_or, Bool.and_true, Bool.true_and, Bool.and_false, Bool.false_and, Bool.not_true, Bool.not_false, Bool.not_not, PM.Ty.sub, PM.sub_self, reduceCtorEq, decide_true, decide_false, eq_self, Nat.zero_add, Nat.reduceAdd, Nat.reduceSub, Nat.reduceLT, Nat.reduceEqDiff, Nat.reduceLeDiff, Int.toNat_natCast, PM.truth_bl, e1, Option.isNone]
  | true =>
    have e2 := e2 rfl
    cases o with
    | none =>
      have e2 : FW [v] = .ok (false, .non) := e2
      simp only [PM.tgT, PM.tgs, PM.callE, PM.runF, PM.initE, PM.seqS, PM.asgS, PM.tgS, PM.parS, PM.appS, PM.augS, PM.dropS, PM.retS, PM.retN, PM.retV, PM.ifS, PM.forS, PM.M.thenS, PM.M.bind, PM.M.lift, PM.ret, PM.cst, PM.var, PM.pvar, PM.pk, PM.bin, PM.asB, PM.tru, PM.tand, PM.tor, PM.tnot, PM.vand, PM.vor, PM.vnot, PM.iff, PM.sli, PM.ono, PM.oin, PM.acons, PM.anil, PM.cnil, PM.cval, PM.cvw, PM.lstE, PM.tupE, PM.blt, PM.isi, PM.una, PM.smE, PM.src, PM.rng1, PM.rng2, PM.skip, PM.brkS, PM.cntS, PM.tgN, PM.wpS, PM.wipeE, PM.chn, PM.setS, PM.yes, PM.extS, PM.enumA, PM.zipA, PM.zipTA, PM.clean, PM.lcE, PM.lenSetE, List.length_cons, List.length_nil, List.getElem?_cons_zero, List.getElem?_cons_succ, List.set_cons_zero, List.set_cons_succ, List.map_cons, List.map_nil, List.cons_append, List.nil_append, List.append_nil, List.replicate, List.length_map, List.length_append, List.length_range, if_true, if_false, ite_true, ite_false, reduceIte, Bool.false_eq_true, decide_eq_true_eq, Option.map_some, Option.map_none, Option.bind_some, Option.bind_none, Option.some.injEq, Option.join, List.isEmpty_cons, List.isEmpty_nil, List.all_cons, List.all_nil, PM.owned, PM.noLS, PM.noL, PM.noLs, Bool.or_true, Bool.true_or, Bool.or_false, Bool.false_or, Bool.and_true, Bool.true_and, Bool.and_false, Bool.false_and, Bool.not_true, Bool.not_false, Bool.not_not, PM.Ty.sub, PM.sub_self, reduceCtorEq, decide_true, decide_false, eq_self, Nat.zero_add, Nat.reduceAdd, Nat.reduceSub, Nat.reduceLT, Nat.reduceEqDiff, Nat.reduceLeDiff, Int.toNat_natCast, PM.truth_bl, PM.is_nn, e1, e2, Option.isNone]
    | some r =>
      have e2 : FW [v] = .ok (false, .str r) := e2
      simp only [PM.tgT, PM.tgs, PM.callE, PM.runF, PM.initE, PM.seqS, PM.asgS, PM.tgS, PM.parS, PM.appS, PM.augS, PM.dropS, PM.retS, PM.retN, PM.retV, PM.ifS, PM.forS, PM.M.thenS, PM.M.bind, PM.M.lift, PM.ret, PM.cst, PM.var, PM.pvar, PM.pk, PM.bin, PM.asB, PM.tru, PM.tand, PM.tor, PM.tnot, PM.vand, PM.vor, PM.vnot, PM.iff, PM.sli, PM.ono, PM.oin, PM.acons, PM.anil, PM.cnil, PM.cval, PM.cvw, PM.lstE, PM.tupE, PM.blt, PM.isi, PM.una, PM.smE, PM.src, PM.rng1, PM.rng2, PM.skip, PM.brkS, PM.cntS, PM.tgN, PM.wpS, PM.wipeE, PM.chn, PM.setS, PM.yes, PM.extS, PM.enumA, PM.zipA, PM.zipTA, PM.clean, PM.lcE, PM.lenSetE, List.length_cons, List.length_nil, List.getElem?_cons_zero, List.getElem?_cons_succ, List.set_cons_zero, List.set_cons_succ, List.map_cons, List.map_nil, List.cons_append, List.nil_append, List.append_nil, List.replicate, List.length_map, List.length_append, List.length_range, if_true, if_false, ite_true, ite_false, reduceIte, Bool.false_eq_true, decide_eq_true_eq, Option.map_some, Option.map_none, Option.bind_some, Option.bind_none, Option.some.injEq, Option.join, List.isEmpty_cons, List.isEmpty_nil, List.all_cons, List.all_nil, PM.owned, PM.noLS, PM.noL, PM.noLs, Bool.or_true, Bool.true_or, Bool.or_false, Bool.false_or, Bool.and_true, Bool.true_and, Bool.and_false, Bool.false_and, Bool.not_true, Bool.not_false, Bool.not_not, PM.Ty.sub, PM.sub_self, reduceCtorEq, decide_true, decide_false, eq_self, Nat.zero_add, Nat.reduceAdd, Nat.reduceSub, Nat.reduceLT, Nat.reduceEqDiff, Nat.reduceLeDiff, Int.toNat_natCast, PM.truth_bl, PM.is_sn, e1, e2, Option.isNone]
theorem isform_ok {v : D} (h : niceD v = true) : M_is_form [v] = .ok (false, .bl (rsn v).isNone) := by
  have e1 := has_ok h
  refine isf_gen (HF := M_has_fields) (FW := M_first_wrong) e1 (fun hb => ?_) fun hb => ?_
  · obtain ⟨a, b, c, d, e, f, g, h', i, rfl, hr⟩ := fld_yes hb
    rw [hr]
    exact fw_ok a b c d e f g h' i
  · rw [fld_no hb]
    exact fun z => by cases z
theorem first_mem : ∀ {P : List (List Nat × Bool)} {r : List Nat}, firstP P = some r → r ∈ P.map (·.1)
  | [], r, h => by cases h
  | (n, b) :: P, r, h => by
    rw [firstP_cons] at h
    cases b with
    | true => cases h; exact List.mem_cons_self
    | false => exact List.mem_cons_of_mem _ (first_mem h)
theorem rsn_okS {v : D} {r : List Nat} (h : rsn v = some r) : okS r = true := by
  cases q : fldB v with
  | false => rw [fld_no q] at h; cases h; rfl
  | true =>
    obtain ⟨a, b, c, d, e, f, g, h', i, rfl, hr⟩ := fld_yes q
    rw [hr] at h
    have m := first_mem h
    have m : r ∈ [rWidth, rHeight, rSpace, rStretch, rShrink, rIndent, rLeading] := m
    have key : ∀ r ∈ [rWidth, rHeight, rSpace, rStretch, rShrink, rIndent, rLeading], okS r = true := by decide
    exact key r m
/-! ### refusals -/
theorem alikeH {r : List Nat} (h : okS r = true) : noX M__law_alike__h [.str r, .str r] = .ok (false, .bl true) := by
  refine noX_ok (run_rt rfl ?_)
  unfold S__law_alike__h
  refine go (S1 := T1__law_alike__h) (ρ1 := [some (false, .str r), some (false, .str r), none]) rfl (go (S1 := T2__law_alike__h) (ρ1 := [some (false, .str r), some (false, .str r), none]) rfl ?_)
  have q := eq_ss h h
  rw [decide_eq_true rfl] at q
  refine PM.seq_rt ?_
  unfold T3__law_alike__h
  simp only [PM.tgT, PM.tgs, PM.callE, PM.runF, PM.initE, PM.seqS, PM.asgS, PM.tgS, PM.parS, PM.appS, PM.augS, PM.dropS, PM.retS, PM.retN, PM.retV, PM.ifS, PM.forS, PM.M.thenS, PM.M.bind, PM.M.lift, PM.ret, PM.cst, PM.var, PM.pvar, PM.pk, PM.bin, PM.asB, PM.tru, PM.tand, PM.tor, PM.tnot, PM.vand, PM.vor, PM.vnot, PM.iff, PM.sli, PM.ono, PM.oin, PM.acons, PM.anil, PM.cnil, PM.cval, PM.cvw, PM.lstE, PM.tupE, PM.blt, PM.isi, PM.una, PM.smE, PM.src, PM.rng1, PM.rng2, PM.skip, PM.brkS, PM.cntS, PM.tgN, PM.wpS, PM.wipeE, PM.chn, PM.setS, PM.yes, PM.extS, PM.enumA, PM.zipA, PM.zipTA, PM.clean, PM.lcE, PM.lenSetE, List.length_cons, List.length_nil, List.getElem?_cons_zero, List.getElem?_cons_succ, List.set_cons_zero, List.set_cons_succ, List.map_cons, List.map_nil, List.cons_append, List.nil_append, List.append_nil, List.replicate, List.length_map, List.length_append, List.length_range, if_true, if_false, ite_true, ite_false, reduceIte, Bool.false_eq_true, decide_eq_true_eq, Option.map_some, Option.map_none, Option.bind_some, Option.bind_none, Option.some.injEq, Option.join, List.isEmpty_cons, List.isEmpty_nil, List.all_cons, List.all_nil, PM.owned, PM.noLS, PM.noL, PM.noLs, Bool.or_true, Bool.true_or, Bool.or_false, Bool.false_or, Bool.and_true, Bool.true_and, Bool.and_false, Bool.false_and, Bool.not_true, Bool.not_false, Bool.not_not, PM.Ty.sub, PM.sub_self, reduceCtorEq, decide_true, decide_false, eq_self, Nat.zero_add, Nat.reduceAdd, Nat.reduceSub, Nat.reduceLT, Nat.reduceEqDiff, Nat.reduceLeDiff, Int.toNat_natCast, q, PM.ty_str, PM.truth_bl]
theorem catch_bf {r : List Nat} (h : okS r = true) (x0 x2 : Option Slot) : catchS H1__law_refused (BF r) [x0, some (false, .str r), x2, none] = .rt (false, .bl true) := by
  have e := alikeH h
  unfold H1__law_refused
  generalize M__law_alike__h = AL at *
  have f : fldE [("BadForm", true)] "reason" (BF r) = fun ρ => .ok (false, .str r) ρ := rfl
  have i1 : isE [("BadForm", false)] (BF r) = fun ρ => .ok (false, .bl false) ρ := rfl
  have i2 : isE [("BadForm", true)] (BF r) = fun ρ => .ok (false, .bl true) ρ := rfl
  have lk : (List.lookup (BF r).cls [(("BadForm" : Str), true)]) = some true := rfl
  unfold catchS
  dsimp only
  rw [lk]
  dsimp only
  rw [if_pos (show 3 < [x0, some (false, .str r), x2, none].length from Nat.lt_succ_self 3)]
  show offS 3 (seqS _ _ [x0, some (false, .str r), x2, none]) = _
  rw [i1, i2, f]
  have y : ∀ S : SM, S = (wpS [0, 2] (ifS (tor (tru (pk fun ρ => .ok (false, .bl false) ρ)) (tru (pk fun ρ => .ok (false, .bl false) ρ))) (retS (cst (.bl false))) skip)) → S [x0, some (false, .str r), x2, none] = .nx [none, some (false, .str r), none, none] := fun S h => by subst h; rfl
  rw [go (y _ rfl) (r := .rt (false, .bl true)) (by simp only [PM.tgT, PM.tgs, PM.callE, PM.runF, PM.initE, PM.seqS, PM.asgS, PM.tgS, PM.parS, PM.appS, PM.augS, PM.dropS, PM.retS, PM.retN, PM.retV, PM.ifS, PM.forS, PM.M.thenS, PM.M.bind, PM.M.lift, PM.ret, PM.cst, PM.var, PM.pvar, PM.pk, PM.bin, PM.asB, PM.tru, PM.tand, PM.tor, PM.tnot, PM.vand, PM.vor, PM.vnot, PM.iff, PM.sli, PM.ono, PM.oin, PM.acons, PM.anil, PM.cnil, PM.cval, PM.cvw, PM.lstE, PM.tupE, PM.blt, PM.isi, PM.una, PM.smE, PM.src, PM.rng1, PM.rng2, PM.skip, PM.brkS, PM.cntS, PM.tgN, PM.wpS, PM.wipeE, PM.chn, PM.setS, PM.yes, PM.extS, PM.enumA, PM.zipA, PM.zipTA, PM.clean, PM.lcE, PM.lenSetE, List.length_cons, List.length_nil, List.getElem?_cons_zero, List.getElem?_cons_succ, List.set_cons_zero, List.set_cons_succ, List.map_cons, List.map_nil, List.cons_append, List.nil_append, List.append_nil, List.replicate, List.length_map, List.length_append, List.length_range, if_true, if_false, ite_true, ite_false, reduceIte, Bool.false_eq_true, decide_eq_true_eq, Option.map_some, Option.map_none, Option.bind_some, Option.bind_none, Option.some.injEq, Option.join, List.isEmpty_cons, List.isEmpty_nil, List.all_cons, List.all_nil, PM.owned, PM.noLS, PM.noL, PM.noLs, Bool.or_true, Bool.true_or, Bool.or_false, Bool.false_or, Bool.and_true, Bool.true_and, Bool.and_false, Bool.false_and, Bool.not_true, Bool.not_false, Bool.not_not, PM.Ty.sub, PM.sub_self, reduceCtorEq, decide_true, decide_false, eq_self, Nat.zero_add, Nat.reduceAdd, Nat.reduceSub, Nat.reduceLT, Nat.reduceEqDiff, Nat.reduceLeDiff, Int.toNat_natCast, PM.truth_bl, e])]
  rfl
theorem refused_no {v : D} {r : List Nat} (h : niceD v = true) (hr : rsn v = some r) : M__law_refused [v, .str r, .non] = .ok (false, .bl true) := by
  have e := check_ok h
  rw [hr] at e
  have e : M_check_form [v] = .exc (BF r) := e
  have b : B1__law_refused [some (false, v), some (false, .str r), some (false, .non), none] = .exc (BF r) [some (false, v), some (false, .str r), some (false, .non), none] := by
    unfold B1__law_refused
    generalize M_check_form = CF at *
    simp only [PM.tgT, PM.tgs, PM.callE, PM.runF, PM.initE, PM.seqS, PM.asgS, PM.tgS, PM.parS, PM.appS, PM.augS, PM.dropS, PM.retS, PM.retN, PM.retV, PM.ifS, PM.forS, PM.M.thenS, PM.M.bind, PM.M.lift, PM.ret, PM.cst, PM.var, PM.pvar, PM.pk, PM.bin, PM.asB, PM.tru, PM.tand, PM.tor, PM.tnot, PM.vand, PM.vor, PM.vnot, PM.iff, PM.sli, PM.ono, PM.oin, PM.acons, PM.anil, PM.cnil, PM.cval, PM.cvw, PM.lstE, PM.tupE, PM.blt, PM.isi, PM.una, PM.smE, PM.src, PM.rng1, PM.rng2, PM.skip, PM.brkS, PM.cntS, PM.tgN, PM.wpS, PM.wipeE, PM.chn, PM.setS, PM.yes, PM.extS, PM.enumA, PM.zipA, PM.zipTA, PM.clean, PM.lcE, PM.lenSetE, List.length_cons, List.length_nil, List.getElem?_cons_zero, List.getElem?_cons_succ, List.set_cons_zero, List.set_cons_succ, List.map_cons, List.map_nil, List.cons_append, List.nil_append, List.append_nil, List.replicate, List.length_map, List.length_append, List.length_range, if_true, if_false, ite_true, ite_false, reduceIte, Bool.false_eq_true, decide_eq_true_eq, Option.map_some, Option.map_none, Option.bind_some, Option.bind_none, Option.some.injEq, Option.join, List.isEmpty_cons, List.isEmpty_nil, List.all_cons, List.all_nil, PM.owned, PM.noLS, PM.noL, PM.noLs, Bool.or_true, Bool.true_or, Bool.or_false, Bool.false_or, Bool.and_true, Bool.true_and, Bool.and_false, Bool.false_and, Bool.not_true, Bool.not_false, Bool.not_not, PM.Ty.sub, PM.sub_self, reduceCtorEq, decide_true, decide_false, eq_self, Nat.zero_add, Nat.reduceAdd, Nat.reduceSub, Nat.reduceLT, Nat.reduceEqDiff, Nat.reduceLeDiff, Int.toNat_natCast, PM.truth_bl, PM.is_nn, e]
  refine run_rt rfl ?_
  unfold S__law_refused
  refine PM.seq_rt (wp_rt ?_)
  show tryS B1__law_refused H1__law_refused [some (false, v), some (false, .str r), some (false, .non), none] = _
  unfold tryS
  rw [b]
  exact catch_bf (rsn_okS hr) _ _
theorem same_bl (b : Bool) : M__law_same [.bl b, .bl b] = .ok (false, .bl true) := by cases b <;> rfl
theorem ck_gen {RE SA IF CF RF : FM} {v : D} {o : Option (List Nat)} (e1 : RE [v] = .ok (false, rsD o)) (e2 : IF [v] = .ok (false, .bl o.isNone)) (e3 : ∀ b, SA [.bl b, .bl b] = .ok (false, .bl true)) (e4 : o = none → CF [v] = .ok (false, .non)) (e5 : ∀ r, o = some r → RF [v, .str r, .non] = .ok (false, .bl true)) :
    runF 2 1 (seqS (asgS 1 (callE RE (cvw 0 cnil)))
  (seqS (ifS (tnot (tru (pk (callE SA (cval (pk (callE IF (cvw 0 cnil))) (cval (pk (bin isD (pvar 1) (pk (cst .non)))) cnil)))))) (retS (cst (.bl false))) skip)
  (seqS (ifS (asB (bin isD (pvar 1) (pk (cst .non)))) (retS (bin isD (pk (callE CF (cvw 0 cnil))) (pk (cst .non)))) skip)
  (retS (callE RF (cvw 0 (cvw 1 (cval (pk (cst .non)) cnil)))))))) [v] = .ok (false, .bl true) := by
  cases o with
  | none =>
    have e1 : RE [v] = .ok (false, .non) := e1
    have e2 : IF [v] = .ok (false, .bl true) := e2
    have e4 := e4 rfl
    simp only [PM.tgT, PM.tgs, PM.callE, PM.runF, PM.initE, PM.seqS, PM.asgS, PM.tgS, PM.parS, PM.appS, PM.augS, PM.dropS, PM.retS, PM.retN, PM.retV, PM.ifS, PM.forS, PM.M.thenS, PM.M.bind, PM.M.lift, PM.ret, PM.cst, PM.var, PM.pvar, PM.pk, PM.bin, PM.asB, PM.tru, PM.tand, PM.tor, PM.tnot, PM.vand, PM.vor, PM.vnot, PM.iff, PM.sli, PM.ono, PM.oin, PM.acons, PM.anil, PM.cnil, PM.cval, PM.cvw, PM.lstE, PM.tupE, PM.blt, PM.isi, PM.una, PM.smE, PM.src, PM.rng1, PM.rng2, PM.skip, PM.brkS, PM.cntS, PM.tgN, PM.wpS, PM.wipeE, PM.chn, PM.setS, PM.yes, PM.extS, PM.enumA, PM.zipA, PM.zipTA, PM.clean, PM.lcE, PM.lenSetE, List.length_cons, List.length_nil, List.getElem?_cons_zero, List.getElem?_cons_succ, List.set_cons_zero, List.set_cons_succ, List.map_cons, List.map_nil, List.cons_append, List.nil_append, List.append_nil, List.replicate, List.length_map, List.length_append, List.length_range, if_true, if_false, ite_true, ite_false, reduceIte, Bool.false_eq_true, decide_eq_true_eq, Option.map_some, Option.map_none, Option.bind_some, Option.bind_none, Option.some.injEq, Option.join, List.isEmpty_cons, List.isEmpty_nil, List.all_cons, List.all_nil, PM.owned, PM.noLS, PM.noL, PM.noLs, Bool.or_true, Bool.true_or, Bool.or_false, Bool.false_or, Bool.and_true, Bool.true_and, Bool.and_false, Bool.false_and, Bool.not_true, Bool.not_false, Bool.not_not, PM.Ty.sub, PM.sub_self, reduceCtorEq, decide_true, decide_false, eq_self, Nat.zero_add, Nat.reduceAdd, Nat.reduceSub, Nat.reduceLT, Nat.reduceEqDiff, Nat.reduceLeDiff, Int.toNat_natCast, PM.truth_bl, PM.is_nn, e1, e2, e3, e4]
  | some r =>
    have e1 : RE [v] = .ok (false, .str r) := e1
    have e2 : IF [v] = .ok (false, .bl false) := e2
    have e5 := e5 r rfl
    simp only [PM.tgT, PM.tgs, PM.callE, PM.runF, PM.initE, PM.seqS, PM.asgS, PM.tgS, PM.parS, PM.appS, PM.augS, PM.dropS, PM.retS, PM.retN, PM.retV, PM.ifS, PM.forS, PM.M.thenS, PM.M.bind, PM.M.lift, PM.ret, PM.cst, PM.var, PM.pvar, PM.pk, PM.bin, PM.asB, PM.tru, PM.tand, PM.tor, PM.tnot, PM.vand, PM.vor, PM.vnot, PM.iff, PM.sli, PM.ono, PM.oin, PM.acons, PM.anil, PM.cnil, PM.cval, PM.cvw, PM.lstE, PM.tupE, PM.blt, PM.isi, PM.una, PM.smE, PM.src, PM.rng1, PM.rng2, PM.skip, PM.brkS, PM.cntS, PM.tgN, PM.wpS, PM.wipeE, PM.chn, PM.setS, PM.yes, PM.extS, PM.enumA, PM.zipA, PM.zipTA, PM.clean, PM.lcE, PM.lenSetE, List.length_cons, List.length_nil, List.getElem?_cons_zero, List.getElem?_cons_succ, List.set_cons_zero, List.set_cons_succ, List.map_cons, List.map_nil, List.cons_append, List.nil_append, List.append_nil, List.replicate, List.length_map, List.length_append, List.length_range, if_true, if_false, ite_true, ite_false, reduceIte, Bool.false_eq_true, decide_eq_true_eq, Option.map_some, Option.map_none, Option.bind_some, Option.bind_none, Option.some.injEq, Option.join, List.isEmpty_cons, List.isEmpty_nil, List.all_cons, List.all_nil, PM.owned, PM.noLS, PM.noL, PM.noLs, Bool.or_true, Bool.true_or, Bool.or_false, Bool.false_or, Bool.and_true, Bool.true_and, Bool.and_false, Bool.false_and, Bool.not_true, Bool.not_false, Bool.not_not, PM.Ty.sub, PM.sub_self, reduceCtorEq, decide_true, decide_false, eq_self, Nat.zero_add, Nat.reduceAdd, Nat.reduceSub, Nat.reduceLT, Nat.reduceEqDiff, Nat.reduceLeDiff, Int.toNat_natCast, PM.truth_bl, PM.is_sn, e1, e2, e3, e5]
theorem checked_ok {v : D} (h : niceD v = true) : M__law_checked [v] = .ok (false, .bl true) :=
  ck_gen (RE := M__law_reason) (SA := M__law_same) (IF := M_is_form) (CF := M_check_form) (RF := M__law_refused) (reason_ok h) (isform_ok h) same_bl (fun q => by
    have e := check_ok h
    rw [q] at e
    exact e) fun r q => refused_no h q
end LawW

namespace LawW
open PySem L2 PM
/-! ### the forms with something changed -/
def NL (l : List D) : Prop := ∀ d ∈ l, niceD d = true
theorem NL.ds : ∀ {l : List D}, NL l → niceDs l = true
  | [], _ => rfl
  | d :: l, h => by
    unfold niceDs
    rw [h d List.mem_cons_self, NL.ds (l := l) fun x hx => h x (List.mem_cons_of_mem _ hx)]
    rfl
theorem NL.tup {l : List D} (h : NL l) (hl : l.length ≤ 1000) : niceD (.tup l) = true := by
  unfold niceD
  rw [decide_eq_true hl, h.ds]
  rfl
theorem NL.lst {l : List D} (h : NL l) (hl : l.length ≤ 1000) : niceD (.lst l) = true := by
  unfold niceD
  rw [decide_eq_true hl, h.ds]
  rfl
theorem NL.app {a b : List D} (h : NL a) (k : NL b) : NL (a ++ b) := fun d hd => (List.mem_append.mp hd).elim (h d) (k d)
theorem NL.take {a : List D} (h : NL a) (n : Nat) : NL (a.take n) := fun d hd => h d (List.mem_of_mem_take hd)
theorem NL.drop {a : List D} (h : NL a) (n : Nat) : NL (a.drop n) := fun d hd => h d (List.mem_of_mem_drop hd)
theorem NL.one {d : D} (h : niceD d = true) : NL [d] := fun x hx => by rw [List.mem_singleton.mp hx]; exact h
theorem NL.nil : NL [] := fun _ h => by cases h
theorem NL.cons {d : D} {l : List D} (h : niceD d = true) (k : NL l) : NL (d :: l) := fun x hx => (List.mem_cons.mp hx).elim (fun e => by rw [e]; exact h) (k x)
/-- nine numbers -/
structure Nine (X : List D) : Prop where
  len : X.length = 9
  nice : NL X
  at_ : ∀ j : Nat, j < 9 → ∃ x : Int, ixD (.tup X) (.int (j : Int)) = some (false, .int x)
def eC (X V : List D) (k r o n : Option Slot) : PM.Env := [some (false, .tup X), some (true, .lst V), k, r, o, n]
section
variable {X V R : List D} {k n : Option Slot}
theorem c1_turn {x : Int} {j : D} (i : ixD (.tup X) j = some (false, .int x)) (a : addD (.lst R) (.lst [.int x, .int (x + 1), .int (x - 1)]) = some (true, .lst (R ++ [.int x, .int (x + 1), .int (x - 1)]))) :
    L1__law_changed (eC X V k (some (true, .lst R)) (some (false, j)) n) = .nx (eC X V k (some (true, .lst (R ++ [.int x, .int (x + 1), .int (x - 1)]))) none n) := by
  have z3 := limT (n := 3) (by decide)
  unfold L1__law_changed eC
  simp only [PM.tgT, PM.tgs, PM.callE, PM.runF, PM.initE, PM.seqS, PM.asgS, PM.tgS, PM.parS, PM.appS, PM.augS, PM.dropS, PM.retS, PM.retN, PM.retV, PM.ifS, PM.forS, PM.M.thenS, PM.M.bind, PM.M.lift, PM.ret, PM.cst, PM.var, PM.pvar, PM.pk, PM.bin, PM.asB, PM.tru, PM.tand, PM.tor, PM.tnot, PM.vand, PM.vor, PM.vnot, PM.iff, PM.sli, PM.ono, PM.oin, PM.acons, PM.anil, PM.cnil, PM.cval, PM.cvw, PM.lstE, PM.tupE, PM.blt, PM.isi, PM.una, PM.smE, PM.src, PM.rng1, PM.rng2, PM.skip, PM.brkS, PM.cntS, PM.tgN, PM.wpS, PM.wipeE, PM.chn, PM.setS, PM.yes, PM.extS, PM.enumA, PM.zipA, PM.zipTA, PM.clean, PM.lcE, PM.lenSetE, List.length_cons, List.length_nil, List.getElem?_cons_zero, List.getElem?_cons_succ, List.set_cons_zero, List.set_cons_succ, List.map_cons, List.map_nil, List.cons_append, List.nil_append, List.append_nil, List.replicate, List.length_map, List.length_append, List.length_range, if_true, if_false, ite_true, ite_false, reduceIte, Bool.false_eq_true, decide_eq_true_eq, Option.map_some, Option.map_none, Option.bind_some, Option.bind_none, Option.some.injEq, Option.join, List.isEmpty_cons, List.isEmpty_nil, List.all_cons, List.all_nil, PM.owned, PM.noLS, PM.noL, PM.noLs, Bool.or_true, Bool.true_or, Bool.or_false, Bool.false_or, Bool.and_true, Bool.true_and, Bool.and_false, Bool.false_and, Bool.not_true, Bool.not_false, Bool.not_not, PM.Ty.sub, PM.sub_self, reduceCtorEq, decide_true, decide_false, eq_self, Nat.zero_add, Nat.reduceAdd, Nat.reduceSub, Nat.reduceLT, Nat.reduceEqDiff, Nat.reduceLeDiff, Int.toNat_natCast, i, PM.add_ii, PM.sub_ii, z3, a]
theorem c1_loop (hX : Nine X) : ∀ (js : List Nat) (R : List D) (o : Option Slot), (∀ j ∈ js, j < 9) → NL R → R.length + 3 * js.length ≤ 100 →
    ∃ R' o', NL R' ∧ R'.length ≤ 100 ∧ R'.length = R.length + 3 * js.length ∧ forF (tgN 4) L1__law_changed (js.map fun (i : Nat) => D.int (i : Int)) (eC X V k (some (true, .lst R)) o n) = .nx (eC X V k (some (true, .lst R')) o' n)
  | [], R, o, _, h, l => ⟨R, o, h, by simpa using l, rfl, rfl⟩
  | j :: js, R, o, hj, h, l => by
    rw [List.length_cons] at l
    obtain ⟨x, i⟩ := hX.at_ j (hj j List.mem_cons_self)
    have t := c1_turn (V := V) (R := R) (k := k) (n := n) i (add_ll (lim (by simp; omega)))
    obtain ⟨R', o', h1, h2, h3, e⟩ := c1_loop hX js (R ++ [.int x, .int (x + 1), .int (x - 1)]) none (fun i hi => hj i (List.mem_cons_of_mem _ hi)) (h.app (NL.cons rfl (NL.cons rfl (NL.one rfl)))) (by simp; omega)
    refine ⟨R', o', h1, h2, by rw [h3, List.length_append, List.length_cons]; simp; omega, ?_⟩
    rw [List.map_cons, for_go (S := L1__law_changed) (ρ1 := eC X V k (some (true, .lst R)) (some (false, .int (j : Int))) n) rfl t]
    exact e
theorem c2_turn {kk : Int} {x : D} {A B C E : List D} {r o : Option Slot} (s1 : sliceD (.tup X) none (some kk) = some (false, .tup A)) (a1 : addD (.tup A) (.tup [x]) = some (false, .tup B)) (s2 : sliceD (.tup X) (some (kk + 1)) none = some (false, .tup C)) (a2 : addD (.tup B) (.tup C) = some (false, .tup E)) (z : (V.length < sizeLine) = True) :
    L2__law_changed (eC X V (some (false, .int kk)) r o (some (false, x))) = .nx (eC X (V ++ [.tup E]) (some (false, .int kk)) none o none) := by
  have z1 := limT (n := 1) (by decide)
  unfold L2__law_changed eC
  simp only [PM.tgT, PM.tgs, PM.callE, PM.runF, PM.initE, PM.seqS, PM.asgS, PM.tgS, PM.parS, PM.appS, PM.augS, PM.dropS, PM.retS, PM.retN, PM.retV, PM.ifS, PM.forS, PM.M.thenS, PM.M.bind, PM.M.lift, PM.ret, PM.cst, PM.var, PM.pvar, PM.pk, PM.bin, PM.asB, PM.tru, PM.tand, PM.tor, PM.tnot, PM.vand, PM.vor, PM.vnot, PM.iff, PM.sli, PM.ono, PM.oin, PM.acons, PM.anil, PM.cnil, PM.cval, PM.cvw, PM.lstE, PM.tupE, PM.blt, PM.isi, PM.una, PM.smE, PM.src, PM.rng1, PM.rng2, PM.skip, PM.brkS, PM.cntS, PM.tgN, PM.wpS, PM.wipeE, PM.chn, PM.setS, PM.yes, PM.extS, PM.enumA, PM.zipA, PM.zipTA, PM.clean, PM.lcE, PM.lenSetE, List.length_cons, List.length_nil, List.getElem?_cons_zero, List.getElem?_cons_succ, List.set_cons_zero, List.set_cons_succ, List.map_cons, List.map_nil, List.cons_append, List.nil_append, List.append_nil, List.replicate, List.length_map, List.length_append, List.length_range, if_true, if_false, ite_true, ite_false, reduceIte, Bool.false_eq_true, decide_eq_true_eq, Option.map_some, Option.map_none, Option.bind_some, Option.bind_none, Option.some.injEq, Option.join, List.isEmpty_cons, List.isEmpty_nil, List.all_cons, List.all_nil, PM.owned, PM.noLS, PM.noL, PM.noLs, Bool.or_true, Bool.true_or, Bool.or_false, Bool.false_or, Bool.and_true, Bool.true_and, Bool.and_false, Bool.false_and, Bool.not_true, Bool.not_false, Bool.not_not, PM.Ty.sub, PM.sub_self, reduceCtorEq, decide_true, decide_false, eq_self, Nat.zero_add, Nat.reduceAdd, Nat.reduceSub, Nat.reduceLT, Nat.reduceEqDiff, Nat.reduceLeDiff, Int.toNat_natCast, s1, PM.add_ii, a1, s2, a2, z, z1]
theorem c2_loop (hX : Nine X) {kk : Nat} {o : Option Slot} (hk : kk < 9) : ∀ (R V : List D) (r n : Option Slot), NL R → NL V → V.length + R.length ≤ 2000 →
    ∃ V' r' n', NL V' ∧ V'.length = V.length + R.length ∧ forF (tgN 5) L2__law_changed R (eC X V (some (false, .int (kk : Int))) r o n) = .nx (eC X V' (some (false, .int (kk : Int))) r' o n')
  | [], V, r, n, _, h, _ => ⟨V, r, n, h, rfl, rfl⟩
  | x :: R, V, r, n, hR, h, l => by
    rw [List.length_cons] at l
    have lX := hX.len
    have s1 := PM.sl_tup (a := X) (lo := none) (hi := some (kk : Int))
    have s2 := PM.sl_tup (a := X) (lo := some ((kk + 1 : Nat) : Int)) (hi := none)
    rw [cut_tn] at s1
    rw [cut_dn] at s2
    have a1 := add_tt (a := X.take kk) (b := [x]) (lim (by simp; omega))
    have a2 := add_tt (a := X.take kk ++ [x]) (b := X.drop (kk + 1)) (lim (by simp; omega))
    have t := c2_turn (V := V) (r := r) (o := o) s1 a1 s2 a2 (limL (by omega))
    have nu : niceD (.tup (X.take kk ++ [x] ++ X.drop (kk + 1))) = true := (((hX.nice.take _).app (NL.one (hR x List.mem_cons_self))).app (hX.nice.drop _)).tup (by simp; omega)
    obtain ⟨V', r', n', h1, h2, e⟩ := c2_loop hX hk R (V ++ [.tup (X.take kk ++ [x] ++ X.drop (kk + 1))]) none none (fun y hy => hR y (List.mem_cons_of_mem _ hy)) (h.app (NL.one nu)) (by simp; omega)
    refine ⟨V', r', n', h1, by rw [h2, List.length_append, List.length_cons, List.length_cons]; simp; omega, ?_⟩
    rw [for_go (S := L2__law_changed) (ρ1 := eC X V (some (false, .int (kk : Int))) r o (some (false, x))) rfl t]
    exact e
theorem pow30 : ∃ p, powD (.int 10) (.int 30) = some (false, .int p) := ⟨10 ^ (30 : Int).toNat, by unfold powD; dsimp only; rw [if_pos (by decide)]⟩
theorem c3_row {j : D} {x : Int} {p : Int} {r o : Option Slot} (i : ixD (.tup X) j = some (false, .int x)) (pw : powD (.int 10) (.int 30) = some (false, .int p)) :
    asgS 3 (lstE (acons (pk (cst (.int 0))) (acons (pk (cst (.int 1))) (acons (pk (cst (.int 2))) (acons (pk (cst (.int 99999))) (acons (pk (cst (.int 100000))) (acons (pk (una negD (pk (cst (.int 1))))) (acons (pk (bin powD (pk (cst (.int 10))) (pk (cst (.int 30))))) (acons (pk (cst .non)) (acons (pk (cst (.bl true))) (acons (pk (cst (.bl false))) (acons (pk (cst (.str [49]))) (acons (pk (tupE (acons (pk (cst (.int 1))) anil))) (acons (pk (bin addD (pk (bin ixD (pvar 0) (pvar 2))) (pk (cst (.int 1))))) (acons (pk (bin subD (pk (bin ixD (pvar 0) (pvar 2))) (pk (cst (.int 1))))) anil)))))))))))))))
      (eC X V (some (false, j)) r o n) = .nx (eC X V (some (false, j)) (some (true, .lst [.int 0, .int 1, .int 2, .int 99999, .int 100000, .int (-1), .int p, .non, .bl true, .bl false, .str [49], .tup [.int 1], .int (x + 1), .int (x - 1)])) o n) := by
  have z1 := limT (n := 1) (by decide)
  have z14 := limT (n := 14) (by decide)
  unfold eC
  simp only [PM.tgT, PM.tgs, PM.callE, PM.runF, PM.initE, PM.seqS, PM.asgS, PM.tgS, PM.parS, PM.appS, PM.augS, PM.dropS, PM.retS, PM.retN, PM.retV, PM.ifS, PM.forS, PM.M.thenS, PM.M.bind, PM.M.lift, PM.ret, PM.cst, PM.var, PM.pvar, PM.pk, PM.bin, PM.asB, PM.tru, PM.tand, PM.tor, PM.tnot, PM.vand, PM.vor, PM.vnot, PM.iff, PM.sli, PM.ono, PM.oin, PM.acons, PM.anil, PM.cnil, PM.cval, PM.cvw, PM.lstE, PM.tupE, PM.blt, PM.isi, PM.una, PM.smE, PM.src, PM.rng1, PM.rng2, PM.skip, PM.brkS, PM.cntS, PM.tgN, PM.wpS, PM.wipeE, PM.chn, PM.setS, PM.yes, PM.extS, PM.enumA, PM.zipA, PM.zipTA, PM.clean, PM.lcE, PM.lenSetE, List.length_cons, List.length_nil, List.getElem?_cons_zero, List.getElem?_cons_succ, List.set_cons_zero, List.set_cons_succ, List.map_cons, List.map_nil, List.cons_append, List.nil_append, List.append_nil, List.replicate, List.length_map, List.length_append, List.length_range, if_true, if_false, ite_true, ite_false, reduceIte, Bool.false_eq_true, decide_eq_true_eq, Option.map_some, Option.map_none, Option.bind_some, Option.bind_none, Option.some.injEq, Option.join, List.isEmpty_cons, List.isEmpty_nil, List.all_cons, List.all_nil, PM.owned, PM.noLS, PM.noL, PM.noLs, Bool.or_true, Bool.true_or, Bool.or_false, Bool.false_or, Bool.and_true, Bool.true_and, Bool.and_false, Bool.false_and, Bool.not_true, Bool.not_false, Bool.not_not, PM.Ty.sub, PM.sub_self, reduceCtorEq, decide_true, decide_false, eq_self, Nat.zero_add, Nat.reduceAdd, Nat.reduceSub, Nat.reduceLT, Nat.reduceEqDiff, Nat.reduceLeDiff, Int.toNat_natCast, i, pw, PM.add_ii, PM.sub_ii, PM.neg_i, z1, z14]
theorem c3_more {a f m h1 h2 : Int} {o : Option Slot} (i5 : ixD (.tup X) (.int 5) = some (false, .int f)) (i0 : ixD (.tup X) (.int 0) = some (false, .int a)) (ml : mulD (.int 2) (.int f) = some (false, .int m)) (d1 : fdivD (.int (a + 1)) (.int 2) = some (false, .int h1)) (d2 : fdivD (.int a) (.int 2) = some (false, .int h2)) (ad : addD (.lst R) (.lst [.int m, .int (m + 1), .int h1, .int h2]) = some (true, .lst (R ++ [.int m, .int (m + 1), .int h1, .int h2]))) :
    asgS 3 (bin addD (pvar 3) (pk (lstE (acons (pk (bin mulD (pk (cst (.int 2))) (pk (bin ixD (pvar 0) (pk (cst (.int 5))))))) (acons (pk (bin addD (pk (bin mulD (pk (cst (.int 2))) (pk (bin ixD (pvar 0) (pk (cst (.int 5))))))) (pk (cst (.int 1))))) (acons (pk (bin fdivD (pk (bin addD (pk (bin ixD (pvar 0) (pk (cst (.int 0))))) (pk (cst (.int 1))))) (pk (cst (.int 2))))) (acons (pk (bin fdivD (pk (bin ixD (pvar 0) (pk (cst (.int 0))))) (pk (cst (.int 2))))) anil)))))))
      (eC X V k (some (true, .lst R)) o n) = .nx (eC X V k (some (true, .lst (R ++ [.int m, .int (m + 1), .int h1, .int h2]))) o n) := by
  have z4 := limT (n := 4) (by decide)
  unfold eC
  simp only [PM.tgT, PM.tgs, PM.callE, PM.runF, PM.initE, PM.seqS, PM.asgS, PM.tgS, PM.parS, PM.appS, PM.augS, PM.dropS, PM.retS, PM.retN, PM.retV, PM.ifS, PM.forS, PM.M.thenS, PM.M.bind, PM.M.lift, PM.ret, PM.cst, PM.var, PM.pvar, PM.pk, PM.bin, PM.asB, PM.tru, PM.tand, PM.tor, PM.tnot, PM.vand, PM.vor, PM.vnot, PM.iff, PM.sli, PM.ono, PM.oin, PM.acons, PM.anil, PM.cnil, PM.cval, PM.cvw, PM.lstE, PM.tupE, PM.blt, PM.isi, PM.una, PM.smE, PM.src, PM.rng1, PM.rng2, PM.skip, PM.brkS, PM.cntS, PM.tgN, PM.wpS, PM.wipeE, PM.chn, PM.setS, PM.yes, PM.extS, PM.enumA, PM.zipA, PM.zipTA, PM.clean, PM.lcE, PM.lenSetE, List.length_cons, List.length_nil, List.getElem?_cons_zero, List.getElem?_cons_succ, List.set_cons_zero, List.set_cons_succ, List.map_cons, List.map_nil, List.cons_append, List.nil_append, List.append_nil, List.replicate, List.length_map, List.length_append, List.length_range, if_true, if_false, ite_true, ite_false, reduceIte, Bool.false_eq_true, decide_eq_true_eq, Option.map_some, Option.map_none, Option.bind_some, Option.bind_none, Option.some.injEq, Option.join, List.isEmpty_cons, List.isEmpty_nil, List.all_cons, List.all_nil, PM.owned, PM.noLS, PM.noL, PM.noLs, Bool.or_true, Bool.true_or, Bool.or_false, Bool.false_or, Bool.and_true, Bool.true_and, Bool.and_false, Bool.false_and, Bool.not_true, Bool.not_false, Bool.not_not, PM.Ty.sub, PM.sub_self, reduceCtorEq, decide_true, decide_false, eq_self, Nat.zero_add, Nat.reduceAdd, Nat.reduceSub, Nat.reduceLT, Nat.reduceEqDiff, Nat.reduceLeDiff, Int.toNat_natCast, i5, i0, ml, d1, d2, PM.add_ii, ad, z4]
theorem c3_turn (hX : Nine X) {j : Nat} (hj : j < 9) (hV : NL V) (hl : V.length ≤ 1500) {r o n : Option Slot} :
    ∃ V' o' n', NL V' ∧ V'.length = V.length + 45 ∧ L3__law_changed (eC X V (some (false, .int (j : Int))) r o n) = .nx (eC X V' none none o' n') := by
  obtain ⟨x, i⟩ := hX.at_ j hj
  obtain ⟨a, i0⟩ := hX.at_ 0 (by decide)
  obtain ⟨f, i5⟩ := hX.at_ 5 (by decide)
  obtain ⟨p, pw⟩ := pow30
  have y1 := c3_row (V := V) (n := n) (r := r) (o := o) i pw
  have n1 : NL [.int 0, .int 1, .int 2, .int 99999, .int 100000, .int (-1), .int p, .non, .bl true, .bl false, .str [49], .tup [.int 1], .int (x + 1), .int (x - 1)] := by
    intro d hd
    simp only [List.mem_cons, List.not_mem_nil, or_false] at hd
    rcases hd with rfl | rfl | rfl | rfl | rfl | rfl | rfl | rfl | rfl | rfl | rfl | rfl | rfl | rfl <;> rfl
  obtain ⟨R1, o1, m1, l1, l1', e1⟩ := c1_loop (V := V) (k := some (false, .int (j : Int))) (n := n) hX (List.range 9) _ o (fun i hi => List.mem_range.mp hi) n1 (show (14 : Nat) + 3 * 9 ≤ 100 by decide)
  have rg : rng1 (acons (pk (cst (.int 9))) anil) (eC X V (some (false, .int (j : Int))) (some (true, .lst [.int 0, .int 1, .int 2, .int 99999, .int 100000, .int (-1), .int p, .non, .bl true, .bl false, .str [49], .tup [.int 1], .int (x + 1), .int (x - 1)])) o n) = .ok (intsR 0 9) (eC X V (some (false, .int (j : Int))) (some (true, .lst [.int 0, .int 1, .int 2, .int 99999, .int 100000, .int (-1), .int p, .non, .bl true, .bl false, .str [49], .tup [.int 1], .int (x + 1), .int (x - 1)])) o n) := rng_ok (L := 9) rfl rfl (by decide)
  rw [intsR_map] at rg
  have l1' : R1.length = 14 + 3 * 9 := l1'
  have y3 := c3_more (V := V) (R := R1) (k := some (false, .int (j : Int))) (n := n) (o := o1) i5 i0 (mul_l (m := 0) (by decide) (by decide)) (fdiv_ii (by decide) (by decide)) (fdiv_ii (by decide) (by decide)) (add_ll (lim (by simp; omega)))
  have n3 : NL (R1 ++ [.int (2 * f), .int (2 * f + 1), .int ((a + 1) / 2), .int (a / 2)]) := m1.app (NL.cons rfl (NL.cons rfl (NL.cons rfl (NL.one rfl))))
  have l3 : (R1 ++ [D.int (2 * f), .int (2 * f + 1), .int ((a + 1) / 2), .int (a / 2)]).length = 45 := by rw [List.length_append, l1']; rfl
  generalize (R1 ++ [D.int (2 * f), .int (2 * f + 1), .int ((a + 1) / 2), .int (a / 2)]) = R3 at *
  obtain ⟨V', r', n', h1, h2, e4⟩ := c2_loop (o := o1) hX hj R3 V (some (false, .lst R3)) n n3 hV (by omega)
  refine ⟨V', o1, n', h1, by omega, ?_⟩
  unfold L3__law_changed
  refine (wp_nx (go y1 (go ((for_nx rg).trans e1) (go y3 ((for_nx (ds := R3) (ρ1 := eC X V (some (false, .int (j : Int))) (some (false, .lst R3)) o1 n) rfl).trans e4))))).trans rfl
theorem c3_loop (hX : Nine X) : ∀ (js : List Nat) (V : List D) (k r o n : Option Slot), (∀ j ∈ js, j < 9) → NL V → V.length + 45 * js.length ≤ 1500 →
    ∃ V' k' r' o' n', NL V' ∧ V'.length = V.length + 45 * js.length ∧ forF (tgN 2) L3__law_changed (js.map fun (i : Nat) => D.int (i : Int)) (eC X V k r o n) = .nx (eC X V' k' r' o' n')
  | [], V, k, r, o, n, _, h, l => ⟨V, k, r, o, n, h, rfl, rfl⟩
  | j :: js, V, k, r, o, n, hj, h, l => by
    rw [List.length_cons] at l
    obtain ⟨V1, o1, n1, h1, l1, e1⟩ := c3_turn (r := r) (o := o) (n := n) hX (hj j List.mem_cons_self) h (by omega)
    obtain ⟨V', k', r', o', n', h2, l2, e2⟩ := c3_loop hX js V1 none none o1 n1 (fun i hi => hj i (List.mem_cons_of_mem _ hi)) h1 (by omega)
    refine ⟨V', k', r', o', n', h2, by rw [l2, l1, List.length_cons]; omega, ?_⟩
    rw [List.map_cons, for_go (S := L3__law_changed) (ρ1 := eC X V (some (false, .int (j : Int))) r o n) rfl e1]
    exact e2
end
end LawW

namespace LawW
open PySem L2 PM
section
variable {X V : List D} {k n r : Option Slot}
theorem c4_app {c c' kk oo : Int} {A B C A1 A2 A3 A4 : List D} (s1 : sliceD (.tup X) none (some kk) = some (false, .tup A)) (s2 : sliceD (.tup X) (some (kk + 1)) (some oo) = some (false, .tup B)) (s3 : sliceD (.tup X) (some (oo + 1)) none = some (false, .tup C))
    (a1 : addD (.tup A) (.tup [.int c]) = some (false, .tup A1)) (a2 : addD (.tup A1) (.tup B) = some (false, .tup A2)) (a3 : addD (.tup A2) (.tup [.int c']) = some (false, .tup A3)) (a4 : addD (.tup A3) (.tup C) = some (false, .tup A4)) (z : (V.length < sizeLine) = True) :
    appS 1 (pk (bin addD (pk (bin addD (pk (bin addD (pk (bin addD (pk (sli (pvar 0) ono (oin (pvar 2)))) (pk (tupE (acons (pk (cst (.int c))) anil))))) (pk (sli (pvar 0) (oin (pk (bin addD (pvar 2) (pk (cst (.int 1)))))) (oin (pvar 4)))))) (pk (tupE (acons (pk (cst (.int c'))) anil))))) (pk (sli (pvar 0) (oin (pk (bin addD (pvar 4) (pk (cst (.int 1)))))) ono))))
      (eC X V (some (false, .int kk)) r (some (false, .int oo)) n) = .nx (eC X (V ++ [.tup A4]) (some (false, .int kk)) r (some (false, .int oo)) n) := by
  have z1 := limT (n := 1) (by decide)
  unfold eC
  simp only [PM.tgT, PM.tgs, PM.callE, PM.runF, PM.initE, PM.seqS, PM.asgS, PM.tgS, PM.parS, PM.appS, PM.augS, PM.dropS, PM.retS, PM.retN, PM.retV, PM.ifS, PM.forS, PM.M.thenS, PM.M.bind, PM.M.lift, PM.ret, PM.cst, PM.var, PM.pvar, PM.pk, PM.bin, PM.asB, PM.tru, PM.tand, PM.tor, PM.tnot, PM.vand, PM.vor, PM.vnot, PM.iff, PM.sli, PM.ono, PM.oin, PM.acons, PM.anil, PM.cnil, PM.cval, PM.cvw, PM.lstE, PM.tupE, PM.blt, PM.isi, PM.una, PM.smE, PM.src, PM.rng1, PM.rng2, PM.skip, PM.brkS, PM.cntS, PM.tgN, PM.wpS, PM.wipeE, PM.chn, PM.setS, PM.yes, PM.extS, PM.enumA, PM.zipA, PM.zipTA, PM.clean, PM.lcE, PM.lenSetE, List.length_cons, List.length_nil, List.getElem?_cons_zero, List.getElem?_cons_succ, List.set_cons_zero, List.set_cons_succ, List.map_cons, List.map_nil, List.cons_append, List.nil_append, List.append_nil, List.replicate, List.length_map, List.length_append, List.length_range, if_true, if_false, ite_true, ite_false, reduceIte, Bool.false_eq_true, decide_eq_true_eq, Option.map_some, Option.map_none, Option.bind_some, Option.bind_none, Option.some.injEq, Option.join, List.isEmpty_cons, List.isEmpty_nil, List.all_cons, List.all_nil, PM.owned, PM.noLS, PM.noL, PM.noLs, Bool.or_true, Bool.true_or, Bool.or_false, Bool.false_or, Bool.and_true, Bool.true_and, Bool.and_false, Bool.false_and, Bool.not_true, Bool.not_false, Bool.not_not, PM.Ty.sub, PM.sub_self, reduceCtorEq, decide_true, decide_false, eq_self, Nat.zero_add, Nat.reduceAdd, Nat.reduceSub, Nat.reduceLT, Nat.reduceEqDiff, Nat.reduceLeDiff, Int.toNat_natCast, s1, s2, s3, PM.add_ii, a1, a2, a3, a4, z, z1]
theorem c4_one (hX : Nine X) {c c' : Int} {kk oo : Nat} (hV : NL V) (hl : V.length ≤ 2000) : ∃ V', NL V' ∧ V'.length = V.length + 1 ∧
    appS 1 (pk (bin addD (pk (bin addD (pk (bin addD (pk (bin addD (pk (sli (pvar 0) ono (oin (pvar 2)))) (pk (tupE (acons (pk (cst (.int c))) anil))))) (pk (sli (pvar 0) (oin (pk (bin addD (pvar 2) (pk (cst (.int 1)))))) (oin (pvar 4)))))) (pk (tupE (acons (pk (cst (.int c'))) anil))))) (pk (sli (pvar 0) (oin (pk (bin addD (pvar 4) (pk (cst (.int 1)))))) ono))))
      (eC X V (some (false, .int (kk : Int))) r (some (false, .int (oo : Int))) n) = .nx (eC X V' (some (false, .int (kk : Int))) r (some (false, .int (oo : Int))) n) := by
  have lX := hX.len
  have s1 := PM.sl_tup (a := X) (lo := none) (hi := some (kk : Int))
  have s2 := PM.sl_tup (a := X) (lo := some ((kk : Int) + 1)) (hi := some (oo : Int))
  have s3 := PM.sl_tup (a := X) (lo := some ((oo + 1 : Nat) : Int)) (hi := none)
  rw [cut_tn] at s1
  rw [cut_dn] at s3
  have hB : NL (cut X (some ((kk : Int) + 1)) (some (oo : Int))) ∧ (cut X (some ((kk : Int) + 1)) (some (oo : Int))).length ≤ 9 := by
    unfold cut
    exact ⟨(hX.nice.drop _).take _, by rw [List.length_take, List.length_drop]; omega⟩
  generalize cut X (some ((kk : Int) + 1)) (some (oo : Int)) = B at *
  obtain ⟨nB, lB⟩ := hB
  have a1 := add_tt (a := X.take kk) (b := [.int c]) (lim (by simp; omega))
  have a2 := add_tt (a := X.take kk ++ [.int c]) (b := B) (lim (by simp; omega))
  have a3 := add_tt (a := X.take kk ++ [.int c] ++ B) (b := [.int c']) (lim (by simp; omega))
  have a4 := add_tt (a := X.take kk ++ [.int c] ++ B ++ [.int c']) (b := X.drop (oo + 1)) (lim (by simp; omega))
  have nu : niceD (.tup (X.take kk ++ [.int c] ++ B ++ [.int c'] ++ X.drop (oo + 1))) = true := (((((hX.nice.take _).app (NL.one rfl)).app nB).app (NL.one rfl)).app (hX.nice.drop _)).tup (by simp; omega)
  exact ⟨_, hV.app (NL.one nu), by rw [List.length_append, List.length_singleton], c4_app s1 s2 s3 a1 a2 a3 a4 (limL (by omega))⟩
theorem c4_turn (hX : Nine X) {kk oo : Nat} (hV : NL V) (hl : V.length ≤ 1900) : ∃ V', NL V' ∧ V'.length = V.length + 3 ∧
    L4__law_changed (eC X V (some (false, .int (kk : Int))) r (some (false, .int (oo : Int))) n) = .nx (eC X V' (some (false, .int (kk : Int))) r none n) := by
  obtain ⟨V1, h1, l1, e1⟩ := c4_one (r := r) (n := n) hX (c := 0) (c' := 0) (kk := kk) (oo := oo) hV (by omega)
  obtain ⟨V2, h2, l2, e2⟩ := c4_one (r := r) (n := n) hX (c := 0) (c' := 100000) (kk := kk) (oo := oo) h1 (by omega)
  obtain ⟨V3, h3, l3, e3⟩ := c4_one (r := r) (n := n) hX (c := 99999) (c' := 99999) (kk := kk) (oo := oo) h2 (by omega)
  refine ⟨V3, h3, by omega, ?_⟩
  unfold L4__law_changed
  have e := wp_nx (js := [4]) (go e1 (go e2 e3))
  refine e.trans ?_
  rfl
theorem c4_loop (hX : Nine X) {kk : Nat} : ∀ (js : List Nat) (V : List D) (o : Option Slot), NL V → V.length + 3 * js.length ≤ 1900 →
    ∃ V' o', NL V' ∧ V'.length = V.length + 3 * js.length ∧ forF (tgN 4) L4__law_changed (js.map fun (i : Nat) => D.int (i : Int)) (eC X V (some (false, .int (kk : Int))) r o n) = .nx (eC X V' (some (false, .int (kk : Int))) r o' n)
  | [], V, o, h, l => ⟨V, o, h, rfl, rfl⟩
  | j :: js, V, o, h, l => by
    rw [List.length_cons] at l
    obtain ⟨V1, h1, l1, e1⟩ := c4_turn (r := r) (n := n) hX (kk := kk) (oo := j) h (by omega)
    obtain ⟨V', o', h2, l2, e2⟩ := c4_loop hX js V1 none h1 (by omega)
    refine ⟨V', o', h2, by rw [l2, l1, List.length_cons]; omega, ?_⟩
    rw [List.map_cons, for_go (S := L4__law_changed) (ρ1 := eC X V (some (false, .int (kk : Int))) r (some (false, .int (j : Int))) n) rfl e1]
    exact e2
theorem c5_turn (hX : Nine X) {kk : Nat} (hk : kk < 8) (hV : NL V) (hl : V.length ≤ 1800) {o : Option Slot} : ∃ V' o', NL V' ∧ V'.length ≤ V.length + 24 ∧
    L5__law_changed (eC X V (some (false, .int (kk : Int))) r o n) = .nx (eC X V' none r o' n) := by
  obtain ⟨V', o', h1, l1, e1⟩ := c4_loop (r := r) (n := n) hX (kk := kk) ((List.range (8 - kk)).map (kk + 1 + ·)) V o hV (by rw [List.length_map, List.length_range]; omega)
  have rg : rng2 (acons (pk (bin addD (pvar 2) (pk (cst (.int 1))))) (acons (pk (cst (.int 9))) anil)) (eC X V (some (false, .int (kk : Int))) r o n) = .ok (intsR ((kk : Int) + 1) (8 - kk)) (eC X V (some (false, .int (kk : Int))) r o n) := rng2_ok (lo := (kk : Int) + 1) (hi := 9) rfl (.inl (by omega)) (by omega) (by omega)
  have eq : intsR ((kk : Int) + 1) (8 - kk) = ((List.range (8 - kk)).map (kk + 1 + ·)).map fun (i : Nat) => D.int (i : Int) := by
    unfold intsR
    rw [List.map_map]
    refine List.map_congr_left fun i _ => ?_
    show D.int ((kk : Int) + 1 + (i : Int)) = D.int (((kk + 1 + i : Nat)) : Int)
    congr 1
  rw [eq] at rg
  refine ⟨V', o', h1, by rw [List.length_map, List.length_range] at l1; omega, ?_⟩
  unfold L5__law_changed
  exact (wp_nx (js := [2]) ((for_nx rg).trans e1)).trans rfl
theorem c5_loop (hX : Nine X) : ∀ (js : List Nat) (V : List D) (k o : Option Slot), (∀ j ∈ js, j < 8) → NL V → V.length + 24 * js.length ≤ 1800 →
    ∃ V' k' o', NL V' ∧ V'.length ≤ 1800 ∧ forF (tgN 2) L5__law_changed (js.map fun (i : Nat) => D.int (i : Int)) (eC X V k r o n) = .nx (eC X V' k' r o' n)
  | [], V, k, o, _, h, l => ⟨V, k, o, h, by simpa using l, rfl⟩
  | j :: js, V, k, o, hj, h, l => by
    rw [List.length_cons] at l
    obtain ⟨V1, o1, h1, l1, e1⟩ := c5_turn (r := r) (n := n) hX (hj j List.mem_cons_self) h (by omega) (o := o)
    obtain ⟨V', k', o', h2, l2, e2⟩ := c5_loop hX js V1 none o1 (fun i hi => hj i (List.mem_cons_of_mem _ hi)) h1 (by omega)
    refine ⟨V', k', o', h2, l2, ?_⟩
    rw [List.map_cons, for_go (S := L5__law_changed) (ρ1 := eC X V (some (false, .int (j : Int))) r o n) rfl e1]
    exact e2
def head15 (X : List D) : List D := [.non, .bl true, .bl false, .int 0, .int 7, .str [102, 111, 114, 109], .tup [], .lst [], .lst X, .tup (X.take 8), .tup (X ++ [.int 0]), .tup (X.drop 1), .tup [.tup X], .tup (List.replicate 9 .non), .str [49, 50, 51, 52, 53, 54, 55, 56, 57]]
theorem c0_gen {A B C N : List D} (s1 : sliceD (.tup X) none (some 8) = some (false, .tup A)) (a1 : addD (.tup X) (.tup [.int 0]) = some (false, .tup B)) (s2 : sliceD (.tup X) (some 1) none = some (false, .tup C)) (m : mulTD (.tup [.non]) (.int 9) = some (false, .tup N)) :
    (asgS 1 (lstE (acons (pk (cst .non)) (acons (pk (cst (.bl true))) (acons (pk (cst (.bl false))) (acons (pk (cst (.int 0))) (acons (pk (cst (.int 7))) (acons (pk (cst (.str [102, 111, 114, 109]))) (acons (pk (tupE anil)) (acons (pk (lstE anil)) (acons (pk (blt listA (acons (pvar 0) anil))) (acons (pk (sli (pvar 0) ono (oin (pk (cst (.int 8)))))) (acons (pk (bin addD (pvar 0) (pk (tupE (acons (pk (cst (.int 0))) anil))))) (acons (pk (sli (pvar 0) (oin (pk (cst (.int 1)))) ono)) (acons (pk (tupE (acons (pk (var 0)) anil))) (acons (pk (bin mulTD (pk (tupE (acons (pk (cst .non)) anil))) (pk (cst (.int 9))))) (acons (pk (cst (.str [49, 50, 51, 52, 53, 54, 55, 56, 57]))) anil)))))))))))))))))
      [some (false, .tup X), none, none, none, none, none] = .nx (eC X [.non, .bl true, .bl false, .int 0, .int 7, .str [102, 111, 114, 109], .tup [], .lst [], .lst X, .tup A, .tup B, .tup C, .tup [.tup X], .tup N, .str [49, 50, 51, 52, 53, 54, 55, 56, 57]] none none none none) := by
  have z0 := limT (n := 0) (by decide)
  have z1 := limT (n := 1) (by decide)
  have z15 := limT (n := 15) (by decide)
  unfold eC
  simp only [PM.tgT, PM.tgs, PM.callE, PM.runF, PM.initE, PM.seqS, PM.asgS, PM.tgS, PM.parS, PM.appS, PM.augS, PM.dropS, PM.retS, PM.retN, PM.retV, PM.ifS, PM.forS, PM.M.thenS, PM.M.bind, PM.M.lift, PM.ret, PM.cst, PM.var, PM.pvar, PM.pk, PM.bin, PM.asB, PM.tru, PM.tand, PM.tor, PM.tnot, PM.vand, PM.vor, PM.vnot, PM.iff, PM.sli, PM.ono, PM.oin, PM.acons, PM.anil, PM.cnil, PM.cval, PM.cvw, PM.lstE, PM.tupE, PM.blt, PM.isi, PM.una, PM.smE, PM.src, PM.rng1, PM.rng2, PM.skip, PM.brkS, PM.cntS, PM.tgN, PM.wpS, PM.wipeE, PM.chn, PM.setS, PM.yes, PM.extS, PM.enumA, PM.zipA, PM.zipTA, PM.clean, PM.lcE, PM.lenSetE, List.length_cons, List.length_nil, List.getElem?_cons_zero, List.getElem?_cons_succ, List.set_cons_zero, List.set_cons_succ, List.map_cons, List.map_nil, List.cons_append, List.nil_append, List.append_nil, List.replicate, List.length_map, List.length_append, List.length_range, if_true, if_false, ite_true, ite_false, reduceIte, Bool.false_eq_true, decide_eq_true_eq, Option.map_some, Option.map_none, Option.bind_some, Option.bind_none, Option.some.injEq, Option.join, List.isEmpty_cons, List.isEmpty_nil, List.all_cons, List.all_nil, PM.owned, PM.noLS, PM.noL, PM.noLs, Bool.or_true, Bool.true_or, Bool.or_false, Bool.false_or, Bool.and_true, Bool.true_and, Bool.and_false, Bool.false_and, Bool.not_true, Bool.not_false, Bool.not_not, PM.Ty.sub, PM.sub_self, reduceCtorEq, decide_true, decide_false, eq_self, Nat.zero_add, Nat.reduceAdd, Nat.reduceSub, Nat.reduceLT, Nat.reduceEqDiff, Nat.reduceLeDiff, Int.toNat_natCast, s1, a1, s2, m, PM.listA_t, z0, z1, z15]
end
theorem changed_ok {X : List D} (hX : Nine X) : ∃ L, NL L ∧ M__law_changed [.tup X] = .ok (true, .lst L) := by
  have lX := hX.len
  have s1 := PM.sl_tup (a := X) (lo := none) (hi := some ((8 : Nat) : Int))
  have s2 := PM.sl_tup (a := X) (lo := some ((1 : Nat) : Int)) (hi := none)
  rw [cut_tn] at s1
  rw [cut_dn] at s2
  have a1 := add_tt (a := X) (b := [.int 0]) (lim (by simp; omega))
  have y0 := c0_gen (N := List.replicate 9 .non) s1 a1 s2 rfl
  have n0 : NL (head15 X) := by
    intro d hd
    unfold head15 at hd
    simp only [List.mem_cons, List.not_mem_nil, or_false] at hd
    rcases hd with rfl | rfl | rfl | rfl | rfl | rfl | rfl | rfl | rfl | rfl | rfl | rfl | rfl | rfl | rfl
    · rfl
    · rfl
    · rfl
    · rfl
    · rfl
    · rfl
    · rfl
    · rfl
    · exact hX.nice.lst (by omega)
    · exact (hX.nice.take 8).tup (by simp; omega)
    · exact (hX.nice.app (NL.one rfl)).tup (by simp; omega)
    · exact (hX.nice.drop 1).tup (by simp; omega)
    · exact (NL.one (hX.nice.tup (by omega))).tup (show (1 : Nat) ≤ 1000 by decide)
    · rfl
    · rfl
  obtain ⟨V1, k1, r1, o1, m1, h1, l1, e1⟩ := c3_loop hX (List.range 9) (head15 X) none none none none (fun i hi => List.mem_range.mp hi) n0 (show 15 + 45 * 9 ≤ 1500 by decide)
  have l1 : V1.length = 15 + 45 * 9 := l1
  obtain ⟨V2, k2, o2, h2, l2, e2⟩ := c5_loop (r := r1) (n := m1) hX (List.range 8) V1 k1 o1 (fun i hi => List.mem_range.mp hi) h1 (by rw [l1]; decide)
  have g1 : rng1 (acons (pk (cst (.int 9))) anil) (eC X (head15 X) none none none none) = .ok (intsR 0 9) (eC X (head15 X) none none none none) := rng_ok (L := 9) rfl rfl (by decide)
  have g2 : rng1 (acons (pk (cst (.int 8))) anil) (eC X V1 k1 r1 o1 m1) = .ok (intsR 0 8) (eC X V1 k1 r1 o1 m1) := rng_ok (L := 8) rfl rfl (by decide)
  rw [intsR_map] at g1 g2
  refine ⟨V2, h2, run_rt rfl ?_⟩
  unfold S__law_changed
  refine go y0 (go ((for_nx g1).trans e1) (go (wp_nx ((for_nx g2).trans e2)) ?_))
  rfl
end LawW

namespace LawW
open PySem L2 PM
/-! ### the form -/
def eF (B : List D) (w s sh i h l : Option Slot) : PM.Env := [none, none, some (true, .lst B), w, s, sh, i, h, l]
theorem two_ix {j m : Int} (h0 : 0 ≤ j) (h1 : j < 2) : ∃ p, ixD (.lst [.int 1, .int m]) (.int j) = some (false, .int p) ∧ (p = 1 ∨ p = m) := by
  have h : j = 0 ∨ j = 1 := by omega
  rcases h with rfl | rfl
  · exact ⟨1, ix_lst (at_0 _ _), .inl rfl⟩
  · exact ⟨m, ix_lst (at_1 _ _ _), .inr rfl⟩
section
variable {B : List D} {w s sh i h l : Option Slot}
theorem f2 {x y j p m : Int} (i0 : ixD (.lst B) (.int 0) = some (false, .int x)) (i9 : ixD (.lst B) (.int 9) = some (false, .int y)) (md : modD (.int y) (.int 2) = some (false, .int j)) (tw : ixD (.lst [.int 1, .int 98]) (.int j) = some (false, .int p)) (ml : mulD (.int x) (.int p) = some (false, .int m)) :
    T2__law_form (eF B w s sh i h l) = .nx (eF B (some (false, .int (1 + m))) s sh i h l) := by
  have z2 := limT (n := 2) (by decide)
  unfold T2__law_form eF
  simp only [PM.tgT, PM.tgs, PM.callE, PM.runF, PM.initE, PM.seqS, PM.asgS, PM.tgS, PM.parS, PM.appS, PM.augS, PM.dropS, PM.retS, PM.retN, PM.retV, PM.ifS, PM.forS, PM.M.thenS, PM.M.bind, PM.M.lift, PM.ret, PM.cst, PM.var, PM.pvar, PM.pk, PM.bin, PM.asB, PM.tru, PM.tand, PM.tor, PM.tnot, PM.vand, PM.vor, PM.vnot, PM.iff, PM.sli, PM.ono, PM.oin, PM.acons, PM.anil, PM.cnil, PM.cval, PM.cvw, PM.lstE, PM.tupE, PM.blt, PM.isi, PM.una, PM.smE, PM.src, PM.rng1, PM.rng2, PM.skip, PM.brkS, PM.cntS, PM.tgN, PM.wpS, PM.wipeE, PM.chn, PM.setS, PM.yes, PM.extS, PM.enumA, PM.zipA, PM.zipTA, PM.clean, PM.lcE, PM.lenSetE, List.length_cons, List.length_nil, List.getElem?_cons_zero, List.getElem?_cons_succ, List.set_cons_zero, List.set_cons_succ, List.map_cons, List.map_nil, List.cons_append, List.nil_append, List.append_nil, List.replicate, List.length_map, List.length_append, List.length_range, if_true, if_false, ite_true, ite_false, reduceIte, Bool.false_eq_true, decide_eq_true_eq, Option.map_some, Option.map_none, Option.bind_some, Option.bind_none, Option.some.injEq, Option.join, List.isEmpty_cons, List.isEmpty_nil, List.all_cons, List.all_nil, PM.owned, PM.noLS, PM.noL, PM.noLs, Bool.or_true, Bool.true_or, Bool.or_false, Bool.false_or, Bool.and_true, Bool.true_and, Bool.and_false, Bool.false_and, Bool.not_true, Bool.not_false, Bool.not_not, PM.Ty.sub, PM.sub_self, reduceCtorEq, decide_true, decide_false, eq_self, Nat.zero_add, Nat.reduceAdd, Nat.reduceSub, Nat.reduceLT, Nat.reduceEqDiff, Nat.reduceLeDiff, Int.toNat_natCast, i0, i9, md, tw, ml, PM.add_ii, z2]
theorem f3 {x y q j p m : Int} (i1 : ixD (.lst B) (.int 1) = some (false, .int x)) (i9 : ixD (.lst B) (.int 9) = some (false, .int y)) (fd : fdivD (.int y) (.int 2) = some (false, .int q)) (md : modD (.int q) (.int 2) = some (false, .int j)) (tw : ixD (.lst [.int 1, .int 99]) (.int j) = some (false, .int p)) (ml : mulD (.int x) (.int p) = some (false, .int m)) :
    T3__law_form (eF B w s sh i h l) = .nx (eF B w (some (false, .int (1 + m))) sh i h l) := by
  have z2 := limT (n := 2) (by decide)
  unfold T3__law_form eF
  simp only [PM.tgT, PM.tgs, PM.callE, PM.runF, PM.initE, PM.seqS, PM.asgS, PM.tgS, PM.parS, PM.appS, PM.augS, PM.dropS, PM.retS, PM.retN, PM.retV, PM.ifS, PM.forS, PM.M.thenS, PM.M.bind, PM.M.lift, PM.ret, PM.cst, PM.var, PM.pvar, PM.pk, PM.bin, PM.asB, PM.tru, PM.tand, PM.tor, PM.tnot, PM.vand, PM.vor, PM.vnot, PM.iff, PM.sli, PM.ono, PM.oin, PM.acons, PM.anil, PM.cnil, PM.cval, PM.cvw, PM.lstE, PM.tupE, PM.blt, PM.isi, PM.una, PM.smE, PM.src, PM.rng1, PM.rng2, PM.skip, PM.brkS, PM.cntS, PM.tgN, PM.wpS, PM.wipeE, PM.chn, PM.setS, PM.yes, PM.extS, PM.enumA, PM.zipA, PM.zipTA, PM.clean, PM.lcE, PM.lenSetE, List.length_cons, List.length_nil, List.getElem?_cons_zero, List.getElem?_cons_succ, List.set_cons_zero, List.set_cons_succ, List.map_cons, List.map_nil, List.cons_append, List.nil_append, List.append_nil, List.replicate, List.length_map, List.length_append, List.length_range, if_true, if_false, ite_true, ite_false, reduceIte, Bool.false_eq_true, decide_eq_true_eq, Option.map_some, Option.map_none, Option.bind_some, Option.bind_none, Option.some.injEq, Option.join, List.isEmpty_cons, List.isEmpty_nil, List.all_cons, List.all_nil, PM.owned, PM.noLS, PM.noL, PM.noLs, Bool.or_true, Bool.true_or, Bool.or_false, Bool.false_or, Bool.and_true, Bool.true_and, Bool.and_false, Bool.false_and, Bool.not_true, Bool.not_false, Bool.not_not, PM.Ty.sub, PM.sub_self, reduceCtorEq, decide_true, decide_false, eq_self, Nat.zero_add, Nat.reduceAdd, Nat.reduceSub, Nat.reduceLT, Nat.reduceEqDiff, Nat.reduceLeDiff, Int.toNat_natCast, i1, i9, fd, md, tw, ml, PM.add_ii, z2]
theorem f4 {x v r : Int} (i2 : ixD (.lst B) (.int 2) = some (false, .int x)) (md : modD (.int x) (.int v) = some (false, .int r)) :
    T4__law_form (eF B w (some (false, .int v)) sh i h l) = .nx (eF B w (some (false, .int v)) (some (false, .int r)) i h l) := by
  unfold T4__law_form eF
  simp only [PM.tgT, PM.tgs, PM.callE, PM.runF, PM.initE, PM.seqS, PM.asgS, PM.tgS, PM.parS, PM.appS, PM.augS, PM.dropS, PM.retS, PM.retN, PM.retV, PM.ifS, PM.forS, PM.M.thenS, PM.M.bind, PM.M.lift, PM.ret, PM.cst, PM.var, PM.pvar, PM.pk, PM.bin, PM.asB, PM.tru, PM.tand, PM.tor, PM.tnot, PM.vand, PM.vor, PM.vnot, PM.iff, PM.sli, PM.ono, PM.oin, PM.acons, PM.anil, PM.cnil, PM.cval, PM.cvw, PM.lstE, PM.tupE, PM.blt, PM.isi, PM.una, PM.smE, PM.src, PM.rng1, PM.rng2, PM.skip, PM.brkS, PM.cntS, PM.tgN, PM.wpS, PM.wipeE, PM.chn, PM.setS, PM.yes, PM.extS, PM.enumA, PM.zipA, PM.zipTA, PM.clean, PM.lcE, PM.lenSetE, List.length_cons, List.length_nil, List.getElem?_cons_zero, List.getElem?_cons_succ, List.set_cons_zero, List.set_cons_succ, List.map_cons, List.map_nil, List.cons_append, List.nil_append, List.append_nil, List.replicate, List.length_map, List.length_append, List.length_range, if_true, if_false, ite_true, ite_false, reduceIte, Bool.false_eq_true, decide_eq_true_eq, Option.map_some, Option.map_none, Option.bind_some, Option.bind_none, Option.some.injEq, Option.join, List.isEmpty_cons, List.isEmpty_nil, List.all_cons, List.all_nil, PM.owned, PM.noLS, PM.noL, PM.noLs, Bool.or_true, Bool.true_or, Bool.or_false, Bool.false_or, Bool.and_true, Bool.true_and, Bool.and_false, Bool.false_and, Bool.not_true, Bool.not_false, Bool.not_not, PM.Ty.sub, PM.sub_self, reduceCtorEq, decide_true, decide_false, eq_self, Nat.zero_add, Nat.reduceAdd, Nat.reduceSub, Nat.reduceLT, Nat.reduceEqDiff, Nat.reduceLeDiff, Int.toNat_natCast, i2, md]
theorem f5 {y j v r : Int} (i9 : ixD (.lst B) (.int 9) = some (false, .int y)) (md : modD (.int y) (.int 3) = some (false, .int j)) :
    ∃ r', (r' = r ∨ r' = v - 1) ∧ T5__law_form (eF B w (some (false, .int v)) (some (false, .int r)) i h l) = .nx (eF B w (some (false, .int v)) (some (false, .int r')) i h l) := by
  have q := eq_ii (i := j) (j := 0)
  unfold T5__law_form eF
  by_cases hj : j = 0
  · rw [decide_eq_true hj] at q
    exact ⟨_, .inr rfl, by simp only [PM.tgT, PM.tgs, PM.callE, PM.runF, PM.initE, PM.seqS, PM.asgS, PM.tgS, PM.parS, PM.appS, PM.augS, PM.dropS, PM.retS, PM.retN, PM.retV, PM.ifS, PM.forS, PM.M.thenS, PM.M.bind, PM.M.lift, PM.ret, PM.cst, PM.var, PM.pvar, PM.pk, PM.bin, PM.asB, PM.tru, PM.tand, PM.tor, PM.tnot, PM.vand, PM.vor, PM.vnot, PM.iff, PM.sli, PM.ono, PM.oin, PM.acons, PM.anil, PM.cnil, PM.cval, PM.cvw, PM.lstE, PM.tupE, PM.blt, PM.isi, PM.una, PM.smE, PM.src, PM.rng1, PM.rng2, PM.skip, PM.brkS, PM.cntS, PM.tgN, PM.wpS, PM.wipeE, PM.chn, PM.setS, PM.yes, PM.extS, PM.enumA, PM.zipA, PM.zipTA, PM.clean, PM.lcE, PM.lenSetE, List.length_cons, List.length_nil, List.getElem?_cons_zero, List.getElem?_cons_succ, List.set_cons_zero, List.set_cons_succ, List.map_cons, List.map_nil, List.cons_append, List.nil_append, List.append_nil, List.replicate, List.length_map, List.length_append, List.length_range, if_true, if_false, ite_true, ite_false, reduceIte, Bool.false_eq_true, decide_eq_true_eq, Option.map_some, Option.map_none, Option.bind_some, Option.bind_none, Option.some.injEq, Option.join, List.isEmpty_cons, List.isEmpty_nil, List.all_cons, List.all_nil, PM.owned, PM.noLS, PM.noL, PM.noLs, Bool.or_true, Bool.true_or, Bool.or_false, Bool.false_or, Bool.and_true, Bool.true_and, Bool.and_false, Bool.false_and, Bool.not_true, Bool.not_false, Bool.not_not, PM.Ty.sub, PM.sub_self, reduceCtorEq, decide_true, decide_false, eq_self, Nat.zero_add, Nat.reduceAdd, Nat.reduceSub, Nat.reduceLT, Nat.reduceEqDiff, Nat.reduceLeDiff, Int.toNat_natCast, PM.truth_bl, i9, md, q, PM.sub_ii]⟩
  · rw [decide_eq_false hj] at q
    exact ⟨_, .inl rfl, by simp only [PM.tgT, PM.tgs, PM.callE, PM.runF, PM.initE, PM.seqS, PM.asgS, PM.tgS, PM.parS, PM.appS, PM.augS, PM.dropS, PM.retS, PM.retN, PM.retV, PM.ifS, PM.forS, PM.M.thenS, PM.M.bind, PM.M.lift, PM.ret, PM.cst, PM.var, PM.pvar, PM.pk, PM.bin, PM.asB, PM.tru, PM.tand, PM.tor, PM.tnot, PM.vand, PM.vor, PM.vnot, PM.iff, PM.sli, PM.ono, PM.oin, PM.acons, PM.anil, PM.cnil, PM.cval, PM.cvw, PM.lstE, PM.tupE, PM.blt, PM.isi, PM.una, PM.smE, PM.src, PM.rng1, PM.rng2, PM.skip, PM.brkS, PM.cntS, PM.tgN, PM.wpS, PM.wipeE, PM.chn, PM.setS, PM.yes, PM.extS, PM.enumA, PM.zipA, PM.zipTA, PM.clean, PM.lcE, PM.lenSetE, List.length_cons, List.length_nil, List.getElem?_cons_zero, List.getElem?_cons_succ, List.set_cons_zero, List.set_cons_succ, List.map_cons, List.map_nil, List.cons_append, List.nil_append, List.append_nil, List.replicate, List.length_map, List.length_append, List.length_range, if_true, if_false, ite_true, ite_false, reduceIte, Bool.false_eq_true, decide_eq_true_eq, Option.map_some, Option.map_none, Option.bind_some, Option.bind_none, Option.some.injEq, Option.join, List.isEmpty_cons, List.isEmpty_nil, List.all_cons, List.all_nil, PM.owned, PM.noLS, PM.noL, PM.noLs, Bool.or_true, Bool.true_or, Bool.or_false, Bool.false_or, Bool.and_true, Bool.true_and, Bool.and_false, Bool.false_and, Bool.not_true, Bool.not_false, Bool.not_not, PM.Ty.sub, PM.sub_self, reduceCtorEq, decide_true, decide_false, eq_self, Nat.zero_add, Nat.reduceAdd, Nat.reduceSub, Nat.reduceLT, Nat.reduceEqDiff, Nat.reduceLeDiff, Int.toNat_natCast, PM.truth_bl, i9, md, q]⟩
theorem f6 {x v q r : Int} (i3 : ixD (.lst B) (.int 3) = some (false, .int x)) (fd : fdivD (.int (v + 1)) (.int 2) = some (false, .int q)) (md : modD (.int x) (.int q) = some (false, .int r)) :
    T6__law_form (eF B (some (false, .int v)) s sh i h l) = .nx (eF B (some (false, .int v)) s sh (some (false, .int r)) h l) := by
  unfold T6__law_form eF
  simp only [PM.tgT, PM.tgs, PM.callE, PM.runF, PM.initE, PM.seqS, PM.asgS, PM.tgS, PM.parS, PM.appS, PM.augS, PM.dropS, PM.retS, PM.retN, PM.retV, PM.ifS, PM.forS, PM.M.thenS, PM.M.bind, PM.M.lift, PM.ret, PM.cst, PM.var, PM.pvar, PM.pk, PM.bin, PM.asB, PM.tru, PM.tand, PM.tor, PM.tnot, PM.vand, PM.vor, PM.vnot, PM.iff, PM.sli, PM.ono, PM.oin, PM.acons, PM.anil, PM.cnil, PM.cval, PM.cvw, PM.lstE, PM.tupE, PM.blt, PM.isi, PM.una, PM.smE, PM.src, PM.rng1, PM.rng2, PM.skip, PM.brkS, PM.cntS, PM.tgN, PM.wpS, PM.wipeE, PM.chn, PM.setS, PM.yes, PM.extS, PM.enumA, PM.zipA, PM.zipTA, PM.clean, PM.lcE, PM.lenSetE, List.length_cons, List.length_nil, List.getElem?_cons_zero, List.getElem?_cons_succ, List.set_cons_zero, List.set_cons_succ, List.map_cons, List.map_nil, List.cons_append, List.nil_append, List.append_nil, List.replicate, List.length_map, List.length_append, List.length_range, if_true, if_false, ite_true, ite_false, reduceIte, Bool.false_eq_true, decide_eq_true_eq, Option.map_some, Option.map_none, Option.bind_some, Option.bind_none, Option.some.injEq, Option.join, List.isEmpty_cons, List.isEmpty_nil, List.all_cons, List.all_nil, PM.owned, PM.noLS, PM.noL, PM.noLs, Bool.or_true, Bool.true_or, Bool.or_false, Bool.false_or, Bool.and_true, Bool.true_and, Bool.and_false, Bool.false_and, Bool.not_true, Bool.not_false, Bool.not_not, PM.Ty.sub, PM.sub_self, reduceCtorEq, decide_true, decide_false, eq_self, Nat.zero_add, Nat.reduceAdd, Nat.reduceSub, Nat.reduceLT, Nat.reduceEqDiff, Nat.reduceLeDiff, Int.toNat_natCast, i3, fd, md, PM.add_ii]
theorem f7 {y j v r q : Int} (i9 : ixD (.lst B) (.int 9) = some (false, .int y)) (md : modD (.int y) (.int 5) = some (false, .int j)) (fd : fdivD (.int (v - 1)) (.int 2) = some (false, .int q)) :
    ∃ r', (r' = r ∨ r' = q) ∧ T7__law_form (eF B (some (false, .int v)) s sh (some (false, .int r)) h l) = .nx (eF B (some (false, .int v)) s sh (some (false, .int r')) h l) := by
  have e := eq_ii (i := j) (j := 0)
  unfold T7__law_form eF
  by_cases hj : j = 0
  · rw [decide_eq_true hj] at e
    exact ⟨_, .inr rfl, by simp only [PM.tgT, PM.tgs, PM.callE, PM.runF, PM.initE, PM.seqS, PM.asgS, PM.tgS, PM.parS, PM.appS, PM.augS, PM.dropS, PM.retS, PM.retN, PM.retV, PM.ifS, PM.forS, PM.M.thenS, PM.M.bind, PM.M.lift, PM.ret, PM.cst, PM.var, PM.pvar, PM.pk, PM.bin, PM.asB, PM.tru, PM.tand, PM.tor, PM.tnot, PM.vand, PM.vor, PM.vnot, PM.iff, PM.sli, PM.ono, PM.oin, PM.acons, PM.anil, PM.cnil, PM.cval, PM.cvw, PM.lstE, PM.tupE, PM.blt, PM.isi, PM.una, PM.smE, PM.src, PM.rng1, PM.rng2, PM.skip, PM.brkS, PM.cntS, PM.tgN, PM.wpS, PM.wipeE, PM.chn, PM.setS, PM.yes, PM.extS, PM.enumA, PM.zipA, PM.zipTA, PM.clean, PM.lcE, PM.lenSetE, List.length_cons, List.length_nil, List.getElem?_cons_zero, List.getElem?_cons_succ, List.set_cons_zero, List.set_cons_succ, List.map_cons, List.map_nil, List.cons_append, List.nil_append, List.append_nil, List.replicate, List.length_map, List.length_append, List.length_range, if_true, if_false, ite_true, ite_false, reduceIte, Bool.false_eq_true, decide_eq_true_eq, Option.map_some, Option.map_none, Option.bind_some, Option.bind_none, Option.some.injEq, Option.join, List.isEmpty_cons, List.isEmpty_nil, List.all_cons, List.all_nil, PM.owned, PM.noLS, PM.noL, PM.noLs, Bool.or_true, Bool.true_or, Bool.or_false, Bool.false_or, Bool.and_true, Bool.true_and, Bool.and_false, Bool.false_and, Bool.not_true, Bool.not_false, Bool.not_not, PM.Ty.sub, PM.sub_self, reduceCtorEq, decide_true, decide_false, eq_self, Nat.zero_add, Nat.reduceAdd, Nat.reduceSub, Nat.reduceLT, Nat.reduceEqDiff, Nat.reduceLeDiff, Int.toNat_natCast, PM.truth_bl, i9, md, e, PM.sub_ii, fd]⟩
  · rw [decide_eq_false hj] at e
    exact ⟨_, .inl rfl, by simp only [PM.tgT, PM.tgs, PM.callE, PM.runF, PM.initE, PM.seqS, PM.asgS, PM.tgS, PM.parS, PM.appS, PM.augS, PM.dropS, PM.retS, PM.retN, PM.retV, PM.ifS, PM.forS, PM.M.thenS, PM.M.bind, PM.M.lift, PM.ret, PM.cst, PM.var, PM.pvar, PM.pk, PM.bin, PM.asB, PM.tru, PM.tand, PM.tor, PM.tnot, PM.vand, PM.vor, PM.vnot, PM.iff, PM.sli, PM.ono, PM.oin, PM.acons, PM.anil, PM.cnil, PM.cval, PM.cvw, PM.lstE, PM.tupE, PM.blt, PM.isi, PM.una, PM.smE, PM.src, PM.rng1, PM.rng2, PM.skip, PM.brkS, PM.cntS, PM.tgN, PM.wpS, PM.wipeE, PM.chn, PM.setS, PM.yes, PM.extS, PM.enumA, PM.zipA, PM.zipTA, PM.clean, PM.lcE, PM.lenSetE, List.length_cons, List.length_nil, List.getElem?_cons_zero, List.getElem?_cons_succ, List.set_cons_zero, List.set_cons_succ, List.map_cons, List.map_nil, List.cons_append, List.nil_append, List.append_nil, List.replicate, List.length_map, List.length_append, List.length_range, if_true, if_false, ite_true, ite_false, reduceIte, Bool.false_eq_true, decide_eq_true_eq, Option.map_some, Option.map_none, Option.bind_some, Option.bind_none, Option.some.injEq, Option.join, List.isEmpty_cons, List.isEmpty_nil, List.all_cons, List.all_nil, PM.owned, PM.noLS, PM.noL, PM.noLs, Bool.or_true, Bool.true_or, Bool.or_false, Bool.false_or, Bool.and_true, Bool.true_and, Bool.and_false, Bool.false_and, Bool.not_true, Bool.not_false, Bool.not_not, PM.Ty.sub, PM.sub_self, reduceCtorEq, decide_true, decide_false, eq_self, Nat.zero_add, Nat.reduceAdd, Nat.reduceSub, Nat.reduceLT, Nat.reduceEqDiff, Nat.reduceLeDiff, Int.toNat_natCast, PM.truth_bl, i9, md, e]⟩
theorem f8 {x y q j p m : Int} (i4 : ixD (.lst B) (.int 4) = some (false, .int x)) (i9 : ixD (.lst B) (.int 9) = some (false, .int y)) (fd : fdivD (.int y) (.int 4) = some (false, .int q)) (md : modD (.int q) (.int 2) = some (false, .int j)) (tw : ixD (.lst [.int 1, .int 98]) (.int j) = some (false, .int p)) (ml : mulD (.int x) (.int p) = some (false, .int m)) :
    T8__law_form (eF B w s sh i h l) = .nx (eF B w s sh i (some (false, .int (1 + m))) l) := by
  have z2 := limT (n := 2) (by decide)
  unfold T8__law_form eF
  simp only [PM.tgT, PM.tgs, PM.callE, PM.runF, PM.initE, PM.seqS, PM.asgS, PM.tgS, PM.parS, PM.appS, PM.augS, PM.dropS, PM.retS, PM.retN, PM.retV, PM.ifS, PM.forS, PM.M.thenS, PM.M.bind, PM.M.lift, PM.ret, PM.cst, PM.var, PM.pvar, PM.pk, PM.bin, PM.asB, PM.tru, PM.tand, PM.tor, PM.tnot, PM.vand, PM.vor, PM.vnot, PM.iff, PM.sli, PM.ono, PM.oin, PM.acons, PM.anil, PM.cnil, PM.cval, PM.cvw, PM.lstE, PM.tupE, PM.blt, PM.isi, PM.una, PM.smE, PM.src, PM.rng1, PM.rng2, PM.skip, PM.brkS, PM.cntS, PM.tgN, PM.wpS, PM.wipeE, PM.chn, PM.setS, PM.yes, PM.extS, PM.enumA, PM.zipA, PM.zipTA, PM.clean, PM.lcE, PM.lenSetE, List.length_cons, List.length_nil, List.getElem?_cons_zero, List.getElem?_cons_succ, List.set_cons_zero, List.set_cons_succ, List.map_cons, List.map_nil, List.cons_append, List.nil_append, List.append_nil, List.replicate, List.length_map, List.length_append, List.length_range, if_true, if_false, ite_true, ite_false, reduceIte, Bool.false_eq_true, decide_eq_true_eq, Option.map_some, Option.map_none, Option.bind_some, Option.bind_none, Option.some.injEq, Option.join, List.isEmpty_cons, List.isEmpty_nil, List.all_cons, List.all_nil, PM.owned, PM.noLS, PM.noL, PM.noLs, Bool.or_true, Bool.true_or, Bool.or_false, Bool.false_or, Bool.and_true, Bool.true_and, Bool.and_false, Bool.false_and, Bool.not_true, Bool.not_false, Bool.not_not, PM.Ty.sub, PM.sub_self, reduceCtorEq, decide_true, decide_false, eq_self, Nat.zero_add, Nat.reduceAdd, Nat.reduceSub, Nat.reduceLT, Nat.reduceEqDiff, Nat.reduceLeDiff, Int.toNat_natCast, i4, i9, fd, md, tw, ml, PM.add_ii, z2]
theorem f9 {x v r : Int} (i5 : ixD (.lst B) (.int 5) = some (false, .int x)) (md : modD (.int x) (.int v) = some (false, .int r)) :
    T9__law_form (eF B w s sh i (some (false, .int v)) l) = .nx (eF B w s sh i (some (false, .int v)) (some (false, .int (1 + r)))) := by
  unfold T9__law_form eF
  simp only [PM.tgT, PM.tgs, PM.callE, PM.runF, PM.initE, PM.seqS, PM.asgS, PM.tgS, PM.parS, PM.appS, PM.augS, PM.dropS, PM.retS, PM.retN, PM.retV, PM.ifS, PM.forS, PM.M.thenS, PM.M.bind, PM.M.lift, PM.ret, PM.cst, PM.var, PM.pvar, PM.pk, PM.bin, PM.asB, PM.tru, PM.tand, PM.tor, PM.tnot, PM.vand, PM.vor, PM.vnot, PM.iff, PM.sli, PM.ono, PM.oin, PM.acons, PM.anil, PM.cnil, PM.cval, PM.cvw, PM.lstE, PM.tupE, PM.blt, PM.isi, PM.una, PM.smE, PM.src, PM.rng1, PM.rng2, PM.skip, PM.brkS, PM.cntS, PM.tgN, PM.wpS, PM.wipeE, PM.chn, PM.setS, PM.yes, PM.extS, PM.enumA, PM.zipA, PM.zipTA, PM.clean, PM.lcE, PM.lenSetE, List.length_cons, List.length_nil, List.getElem?_cons_zero, List.getElem?_cons_succ, List.set_cons_zero, List.set_cons_succ, List.map_cons, List.map_nil, List.cons_append, List.nil_append, List.append_nil, List.replicate, List.length_map, List.length_append, List.length_range, if_true, if_false, ite_true, ite_false, reduceIte, Bool.false_eq_true, decide_eq_true_eq, Option.map_some, Option.map_none, Option.bind_some, Option.bind_none, Option.some.injEq, Option.join, List.isEmpty_cons, List.isEmpty_nil, List.all_cons, List.all_nil, PM.owned, PM.noLS, PM.noL, PM.noLs, Bool.or_true, Bool.true_or, Bool.or_false, Bool.false_or, Bool.and_true, Bool.true_and, Bool.and_false, Bool.false_and, Bool.not_true, Bool.not_false, Bool.not_not, PM.Ty.sub, PM.sub_self, reduceCtorEq, decide_true, decide_false, eq_self, Nat.zero_add, Nat.reduceAdd, Nat.reduceSub, Nat.reduceLT, Nat.reduceEqDiff, Nat.reduceLeDiff, Int.toNat_natCast, i5, md, PM.add_ii]
theorem f10 {y j v r : Int} (i9 : ixD (.lst B) (.int 9) = some (false, .int y)) (md : modD (.int y) (.int 7) = some (false, .int j)) :
    ∃ r', (r' = r ∨ r' = v) ∧ T10__law_form (eF B w s sh i (some (false, .int v)) (some (false, .int r))) = .nx (eF B w s sh i (some (false, .int v)) (some (false, .int r'))) := by
  have q := eq_ii (i := j) (j := 0)
  unfold T10__law_form eF
  by_cases hj : j = 0
  · rw [decide_eq_true hj] at q
    exact ⟨_, .inr rfl, by simp only [PM.tgT, PM.tgs, PM.callE, PM.runF, PM.initE, PM.seqS, PM.asgS, PM.tgS, PM.parS, PM.appS, PM.augS, PM.dropS, PM.retS, PM.retN, PM.retV, PM.ifS, PM.forS, PM.M.thenS, PM.M.bind, PM.M.lift, PM.ret, PM.cst, PM.var, PM.pvar, PM.pk, PM.bin, PM.asB, PM.tru, PM.tand, PM.tor, PM.tnot, PM.vand, PM.vor, PM.vnot, PM.iff, PM.sli, PM.ono, PM.oin, PM.acons, PM.anil, PM.cnil, PM.cval, PM.cvw, PM.lstE, PM.tupE, PM.blt, PM.isi, PM.una, PM.smE, PM.src, PM.rng1, PM.rng2, PM.skip, PM.brkS, PM.cntS, PM.tgN, PM.wpS, PM.wipeE, PM.chn, PM.setS, PM.yes, PM.extS, PM.enumA, PM.zipA, PM.zipTA, PM.clean, PM.lcE, PM.lenSetE, List.length_cons, List.length_nil, List.getElem?_cons_zero, List.getElem?_cons_succ, List.set_cons_zero, List.set_cons_succ, List.map_cons, List.map_nil, List.cons_append, List.nil_append, List.append_nil, List.replicate, List.length_map, List.length_append, List.length_range, if_true, if_false, ite_true, ite_false, reduceIte, Bool.false_eq_true, decide_eq_true_eq, Option.map_some, Option.map_none, Option.bind_some, Option.bind_none, Option.some.injEq, Option.join, List.isEmpty_cons, List.isEmpty_nil, List.all_cons, List.all_nil, PM.owned, PM.noLS, PM.noL, PM.noLs, Bool.or_true, Bool.true_or, Bool.or_false, Bool.false_or, Bool.and_true, Bool.true_and, Bool.and_false, Bool.false_and, Bool.not_true, Bool.not_false, Bool.not_not, PM.Ty.sub, PM.sub_self, reduceCtorEq, decide_true, decide_false, eq_self, Nat.zero_add, Nat.reduceAdd, Nat.reduceSub, Nat.reduceLT, Nat.reduceEqDiff, Nat.reduceLeDiff, Int.toNat_natCast, PM.truth_bl, i9, md, q]⟩
  · rw [decide_eq_false hj] at q
    exact ⟨_, .inl rfl, by simp only [PM.tgT, PM.tgs, PM.callE, PM.runF, PM.initE, PM.seqS, PM.asgS, PM.tgS, PM.parS, PM.appS, PM.augS, PM.dropS, PM.retS, PM.retN, PM.retV, PM.ifS, PM.forS, PM.M.thenS, PM.M.bind, PM.M.lift, PM.ret, PM.cst, PM.var, PM.pvar, PM.pk, PM.bin, PM.asB, PM.tru, PM.tand, PM.tor, PM.tnot, PM.vand, PM.vor, PM.vnot, PM.iff, PM.sli, PM.ono, PM.oin, PM.acons, PM.anil, PM.cnil, PM.cval, PM.cvw, PM.lstE, PM.tupE, PM.blt, PM.isi, PM.una, PM.smE, PM.src, PM.rng1, PM.rng2, PM.skip, PM.brkS, PM.cntS, PM.tgN, PM.wpS, PM.wipeE, PM.chn, PM.setS, PM.yes, PM.extS, PM.enumA, PM.zipA, PM.zipTA, PM.clean, PM.lcE, PM.lenSetE, List.length_cons, List.length_nil, List.getElem?_cons_zero, List.getElem?_cons_succ, List.set_cons_zero, List.set_cons_succ, List.map_cons, List.map_nil, List.cons_append, List.nil_append, List.append_nil, List.replicate, List.length_map, List.length_append, List.length_range, if_true, if_false, ite_true, ite_false, reduceIte, Bool.false_eq_true, decide_eq_true_eq, Option.map_some, Option.map_none, Option.bind_some, Option.bind_none, Option.some.injEq, Option.join, List.isEmpty_cons, List.isEmpty_nil, List.all_cons, List.all_nil, PM.owned, PM.noLS, PM.noL, PM.noLs, Bool.or_true, Bool.true_or, Bool.or_false, Bool.false_or, Bool.and_true, Bool.true_and, Bool.and_false, Bool.false_and, Bool.not_true, Bool.not_false, Bool.not_not, PM.Ty.sub, PM.sub_self, reduceCtorEq, decide_true, decide_false, eq_self, Nat.zero_add, Nat.reduceAdd, Nat.reduceSub, Nat.reduceLT, Nat.reduceEqDiff, Nat.reduceLeDiff, Int.toNat_natCast, PM.truth_bl, i9, md, q]⟩
theorem f11 {a c e f b g x6 x7 x8 m : Int} (i6 : ixD (.lst B) (.int 6) = some (false, .int x6)) (i7 : ixD (.lst B) (.int 7) = some (false, .int x7)) (i8 : ixD (.lst B) (.int 8) = some (false, .int x8)) (ml : mulD (.int x7) (.int 99) = some (false, .int m)) :
    T11__law_form (eF B (some (false, .int a)) (some (false, .int c)) (some (false, .int e)) (some (false, .int f)) (some (false, .int b)) (some (false, .int g))) = .rt (false, .tup [.int a, .int b, .int c, .int (1 + x6), .int e, .int f, .int g, .int m, .int x8]) := by
  have z9 := limT (n := 9) (by decide)
  unfold T11__law_form eF
  simp only [PM.tgT, PM.tgs, PM.callE, PM.runF, PM.initE, PM.seqS, PM.asgS, PM.tgS, PM.parS, PM.appS, PM.augS, PM.dropS, PM.retS, PM.retN, PM.retV, PM.ifS, PM.forS, PM.M.thenS, PM.M.bind, PM.M.lift, PM.ret, PM.cst, PM.var, PM.pvar, PM.pk, PM.bin, PM.asB, PM.tru, PM.tand, PM.tor, PM.tnot, PM.vand, PM.vor, PM.vnot, PM.iff, PM.sli, PM.ono, PM.oin, PM.acons, PM.anil, PM.cnil, PM.cval, PM.cvw, PM.lstE, PM.tupE, PM.blt, PM.isi, PM.una, PM.smE, PM.src, PM.rng1, PM.rng2, PM.skip, PM.brkS, PM.cntS, PM.tgN, PM.wpS, PM.wipeE, PM.chn, PM.setS, PM.yes, PM.extS, PM.enumA, PM.zipA, PM.zipTA, PM.clean, PM.lcE, PM.lenSetE, List.length_cons, List.length_nil, List.getElem?_cons_zero, List.getElem?_cons_succ, List.set_cons_zero, List.set_cons_succ, List.map_cons, List.map_nil, List.cons_append, List.nil_append, List.append_nil, List.replicate, List.length_map, List.length_append, List.length_range, if_true, if_false, ite_true, ite_false, reduceIte, Bool.false_eq_true, decide_eq_true_eq, Option.map_some, Option.map_none, Option.bind_some, Option.bind_none, Option.some.injEq, Option.join, List.isEmpty_cons, List.isEmpty_nil, List.all_cons, List.all_nil, PM.owned, PM.noLS, PM.noL, PM.noLs, Bool.or_true, Bool.true_or, Bool.or_false, Bool.false_or, Bool.and_true, Bool.true_and, Bool.and_false, Bool.false_and, Bool.not_true, Bool.not_false, Bool.not_not, PM.Ty.sub, PM.sub_self, reduceCtorEq, decide_true, decide_false, eq_self, Nat.zero_add, Nat.reduceAdd, Nat.reduceSub, Nat.reduceLT, Nat.reduceEqDiff, Nat.reduceLeDiff, Int.toNat_natCast, i6, i7, i8, ml, PM.add_ii, z9]
end
/-- a right form -/
structure Form (a b c d e f g h i : Int) : Prop where
  all : ([.int a, .int b, .int c, .int d, .int e, .int f, .int g, .int h, .int i] : List D).all okN = true
  why : firstP (whyP a b c d e f g) = none
theorem okN_i {i : Int} (h0 : 0 ≤ i) (h1 : i ≤ 99999) : okN (.int i) = true := by
  show (decide (0 ≤ i) && decide (i ≤ 99999)) = true
  rw [decide_eq_true h0, decide_eq_true h1]
  rfl
theorem form_of {a b c d e f g h i : Int} (ha : 1 ≤ a ∧ a ≤ 99999) (hb : 1 ≤ b ∧ b ≤ 99999) (hc : 1 ≤ c ∧ c ≤ 99999) (hd : 1 ≤ d ∧ d ≤ 99999) (he : 0 ≤ e ∧ e < c) (hf : 0 ≤ f ∧ 2 * f < a) (hg : 1 ≤ g ∧ g ≤ b) (hh : 0 ≤ h ∧ h ≤ 99999) (hi : 0 ≤ i ∧ i ≤ 99999) : Form a b c d e f g h i where
  all := by
    refine List.all_eq_true.mpr fun x hx => ?_
    simp only [List.mem_cons, List.not_mem_nil, or_false] at hx
    rcases hx with rfl | rfl | rfl | rfl | rfl | rfl | rfl | rfl | rfl <;> exact okN_i (by omega) (by omega)
  why := by
    unfold whyP
    rw [decide_eq_false (show ¬ a < 1 by omega), decide_eq_false (show ¬ b < 1 by omega), decide_eq_false (show ¬ c < 1 by omega), decide_eq_false (show ¬ d < 1 by omega), decide_eq_false (show ¬ c ≤ e by omega), decide_eq_false (show ¬ a ≤ 2 * f by omega), decide_eq_false (show ¬ g < 1 by omega), decide_eq_false (show ¬ b < g by omega)]
    rfl
theorem form_ok (ns : List Int) (hl : ns.length ≤ 63) : ∃ a b c d e f g h i : Int, Form a b c d e f g h i ∧ M__law_form [.lst (ns.map D.int), .int 0] = .ok (false, .tup [.int a, .int b, .int c, .int d, .int e, .int f, .int g, .int h, .int i]) := by
  obtain ⟨l0, N0, E0⟩ := numbers_ok ns hl (a := 0) (c := 10) (n := 10) (by decide) (by decide) rfl (by decide) (by decide)
  have n0 := nls_int l0
  obtain ⟨x0, i0, a0, b0⟩ := get3 N0 (i := 0) (by decide)
  obtain ⟨x1, i1, a1, b1⟩ := get3 N0 (i := 1) (by decide)
  obtain ⟨x2, i2, a2, b2⟩ := get3 N0 (i := 2) (by decide)
  obtain ⟨x3, i3, a3, b3⟩ := get3 N0 (i := 3) (by decide)
  obtain ⟨x4, i4, a4, b4⟩ := get3 N0 (i := 4) (by decide)
  obtain ⟨x5, i5, a5, b5⟩ := get3 N0 (i := 5) (by decide)
  obtain ⟨x6, i6, a6, b6⟩ := get3 N0 (i := 6) (by decide)
  obtain ⟨x7, i7, a7, b7⟩ := get3 N0 (i := 7) (by decide)
  obtain ⟨x8, i8, a8, b8⟩ := get3 N0 (i := 8) (by decide)
  obtain ⟨x9, i9, a9, b9⟩ := get3 N0 (i := 9) (by decide)
  obtain ⟨p2, t2, q2⟩ := two_ix (m := 98) (Int.emod_nonneg x9 (show (2 : Int) ≠ 0 by decide)) (Int.emod_lt_of_pos x9 (show (0 : Int) < 2 by decide))
  obtain ⟨p3, t3, q3⟩ := two_ix (m := 99) (Int.emod_nonneg (x9 / 2) (show (2 : Int) ≠ 0 by decide)) (Int.emod_lt_of_pos (x9 / 2) (show (0 : Int) < 2 by decide))
  obtain ⟨p8, t8, q8⟩ := two_ix (m := 98) (Int.emod_nonneg (x9 / 4) (show (2 : Int) ≠ 0 by decide)) (Int.emod_lt_of_pos (x9 / 4) (show (0 : Int) < 2 by decide))
  have big : ∀ x : Int, 0 ≤ x → x < 1009 → -(2 ^ 64) < x ∧ x < 2 ^ 64 := fun x h0 h1 => ⟨Int.lt_of_lt_of_le (by decide) h0, Int.lt_trans h1 (by decide)⟩
  have bw : ∀ x p : Int, 0 ≤ x → x < 1009 → (p = 1 ∨ p = 98 ∨ p = 99) → 1 ≤ 1 + x * p ∧ 1 + x * p ≤ 99999 := fun x p h0 h1 hp => by
    rcases hp with rfl | rfl | rfl <;> omega
  have y2 := f2 (w := none) (s := none) (sh := none) (i := none) (h := none) (l := none) i0 i9 (mod_ii (by decide)) t2 (mul_l (m := 0) (big x0 a0 b0).1 (big x0 a0 b0).2)
  have k2 := bw x0 p2 a0 b0 (q2.imp_right .inl)
  generalize 1 + x0 * p2 = w at y2 k2
  have y3 := f3 (w := some (false, .int w)) (s := none) (sh := none) (i := none) (h := none) (l := none) i1 i9 (fdiv_ii (by decide) (by decide)) (mod_ii (by decide)) t3 (mul_l (m := 0) (big x1 a1 b1).1 (big x1 a1 b1).2)
  have k3 := bw x1 p3 a1 b1 (q3.imp_right .inr)
  generalize 1 + x1 * p3 = s at y3 k3
  have y4 := f4 (w := some (false, .int w)) (v := s) (sh := none) (i := none) (h := none) (l := none) i2 (mod_ii (by omega))
  have m4 := Int.emod_nonneg x2 (show s ≠ 0 by omega)
  have m4' := Int.emod_lt_of_pos x2 (show 0 < s by omega)
  obtain ⟨e, he, y5⟩ := f5 (w := some (false, .int w)) (v := s) (r := x2 % s) (i := none) (h := none) (l := none) i9 (mod_ii (by decide))
  have ke : 0 ≤ e ∧ e < s := by rcases he with rfl | rfl <;> omega
  have y6 := f6 (v := w) (s := some (false, .int s)) (sh := some (false, .int e)) (i := none) (h := none) (l := none) i3 (fdiv_ii (by decide) (by decide)) (mod_ii (show 0 < (w + 1) / 2 by omega))
  have m6 := Int.emod_nonneg x3 (show (w + 1) / 2 ≠ 0 by omega)
  have m6' := Int.emod_lt_of_pos x3 (show 0 < (w + 1) / 2 by omega)
  obtain ⟨f, hf, y7⟩ := f7 (v := w) (r := x3 % ((w + 1) / 2)) (s := some (false, .int s)) (sh := some (false, .int e)) (h := none) (l := none) i9 (mod_ii (by decide)) (fdiv_ii (i := w - 1) (j := 2) (by decide) (by decide))
  have kf : 0 ≤ f ∧ 2 * f < w := by rcases hf with rfl | rfl <;> omega
  have y8 := f8 (w := some (false, .int w)) (s := some (false, .int s)) (sh := some (false, .int e)) (i := some (false, .int f)) (h := none) (l := none) i4 i9 (fdiv_ii (by decide) (by decide)) (mod_ii (by decide)) t8 (mul_l (m := 0) (big x4 a4 b4).1 (big x4 a4 b4).2)
  have k8 := bw x4 p8 a4 b4 (q8.imp_right .inl)
  generalize 1 + x4 * p8 = b at y8 k8
  have y9 := f9 (w := some (false, .int w)) (s := some (false, .int s)) (sh := some (false, .int e)) (i := some (false, .int f)) (v := b) (l := none) i5 (mod_ii (by omega))
  have m9 := Int.emod_nonneg x5 (show b ≠ 0 by omega)
  have m9' := Int.emod_lt_of_pos x5 (show 0 < b by omega)
  obtain ⟨g, hg, y10⟩ := f10 (w := some (false, .int w)) (s := some (false, .int s)) (sh := some (false, .int e)) (i := some (false, .int f)) (v := b) (r := 1 + x5 % b) i9 (mod_ii (by decide))
  have kg : 1 ≤ g ∧ g ≤ b := by rcases hg with rfl | rfl <;> omega
  have y11 := f11 (a := w) (c := s) (e := e) (f := f) (b := b) (g := g) i6 i7 i8 (mul_l (m := 0) (big x7 a7 b7).1 (big x7 a7 b7).2)
  have y1 : T1__law_form [some (false, .lst (ns.map D.int)), some (false, .int 0), none, none, none, none, none, none, none] = .nx (eF (l0.map D.int) none none none none none none) := by
    unfold T1__law_form eF
    generalize M__law_numbers = NU at *
    simp only [PM.tgT, PM.tgs, PM.callE, PM.runF, PM.initE, PM.seqS, PM.asgS, PM.tgS, PM.parS, PM.appS, PM.augS, PM.dropS, PM.retS, PM.retN, PM.retV, PM.ifS, PM.forS, PM.M.thenS, PM.M.bind, PM.M.lift, PM.ret, PM.cst, PM.var, PM.pvar, PM.pk, PM.bin, PM.asB, PM.tru, PM.tand, PM.tor, PM.tnot, PM.vand, PM.vor, PM.vnot, PM.iff, PM.sli, PM.ono, PM.oin, PM.acons, PM.anil, PM.cnil, PM.cval, PM.cvw, PM.lstE, PM.tupE, PM.blt, PM.isi, PM.una, PM.smE, PM.src, PM.rng1, PM.rng2, PM.skip, PM.brkS, PM.cntS, PM.tgN, PM.wpS, PM.wipeE, PM.chn, PM.setS, PM.yes, PM.extS, PM.enumA, PM.zipA, PM.zipTA, PM.clean, PM.lcE, PM.lenSetE, List.length_cons, List.length_nil, List.getElem?_cons_zero, List.getElem?_cons_succ, List.set_cons_zero, List.set_cons_succ, List.map_cons, List.map_nil, List.cons_append, List.nil_append, List.append_nil, List.replicate, List.length_map, List.length_append, List.length_range, if_true, if_false, ite_true, ite_false, reduceIte, Bool.false_eq_true, decide_eq_true_eq, Option.map_some, Option.map_none, Option.bind_some, Option.bind_none, Option.some.injEq, Option.join, List.isEmpty_cons, List.isEmpty_nil, List.all_cons, List.all_nil, PM.owned, PM.noLS, PM.noL, PM.noLs, Bool.or_true, Bool.true_or, Bool.or_false, Bool.false_or, Bool.and_true, Bool.true_and, Bool.and_false, Bool.false_and, Bool.not_true, Bool.not_false, Bool.not_not, PM.Ty.sub, PM.sub_self, reduceCtorEq, decide_true, decide_false, eq_self, Nat.zero_add, Nat.reduceAdd, Nat.reduceSub, Nat.reduceLT, Nat.reduceEqDiff, Nat.reduceLeDiff, Int.toNat_natCast, E0]
  refine ⟨w, b, s, 1 + x6, e, f, g, x7 * 99, x8, form_of k2 k8 k3 (by omega) ke kf kg (by omega) (by omega), run_rt rfl ?_⟩
  unfold S__law_form
  exact go y1 (go y2 (go y3 (go y4 (go y5 (go y6 (go y7 (go y8 (go y9 (go y10 y11)))))))))
end LawW

namespace LawW
open PySem L2 PM
/-! ### the law -/
abbrev tup9 (a b c d e f g h i : Int) : D := .tup [.int a, .int b, .int c, .int d, .int e, .int f, .int g, .int h, .int i]
theorem nice9 (a b c d e f g h i : Int) : niceD (tup9 a b c d e f g h i) = true := rfl
theorem un_ok (a b c d e f g h i : Int) : M_unindented [tup9 a b c d e f g h i] = .ok (false, tup9 a b c d e 0 g h i) := rfl
theorem ww_gen {UN CK : FM} {v : D} {w : Int} {U C F : List D} {o : Option (List Nat)} (e1 : UN [v] = .ok (false, .tup U)) (s : sliceD (.tup U) (some 1) none = some (false, .tup C)) (a : addD (.tup [.int w]) (.tup C) = some (false, .tup F)) (e2 : CK [.tup F] = chkR o) :
    runF 3 2 (seqS (wpS [0, 1] (asgS 2 (bin addD (pk (tupE (acons (pk (var 1)) anil))) (pk (sli (pk (callE UN (cvw 0 cnil))) (oin (pk (cst (.int 1)))) ono)))))
  (seqS (dropS (callE CK (cvw 2 cnil))) (retV 2))) [v, .int w] = match o with
    | none => .ok (false, .tup F)
    | some r => .exc (BF r) := by
  have z1 := limT (n := 1) (by decide)
  cases o with
  | none =>
    have e2 : CK [.tup F] = .ok (false, .non) := e2
    simp only [PM.tgT, PM.tgs, PM.callE, PM.runF, PM.initE, PM.seqS, PM.asgS, PM.tgS, PM.parS, PM.appS, PM.augS, PM.dropS, PM.retS, PM.retN, PM.retV, PM.ifS, PM.forS, PM.M.thenS, PM.M.bind, PM.M.lift, PM.ret, PM.cst, PM.var, PM.pvar, PM.pk, PM.bin, PM.asB, PM.tru, PM.tand, PM.tor, PM.tnot, PM.vand, PM.vor, PM.vnot, PM.iff, PM.sli, PM.ono, PM.oin, PM.acons, PM.anil, PM.cnil, PM.cval, PM.cvw, PM.lstE, PM.tupE, PM.blt, PM.isi, PM.una, PM.smE, PM.src, PM.rng1, PM.rng2, PM.skip, PM.brkS, PM.cntS, PM.tgN, PM.wpS, PM.wipeE, PM.chn, PM.setS, PM.yes, PM.extS, PM.enumA, PM.zipA, PM.zipTA, PM.clean, PM.lcE, PM.lenSetE, List.length_cons, List.length_nil, List.getElem?_cons_zero, List.getElem?_cons_succ, List.set_cons_zero, List.set_cons_succ, List.map_cons, List.map_nil, List.cons_append, List.nil_append, List.append_nil, List.replicate, List.length_map, List.length_append, List.length_range, if_true, if_false, ite_true, ite_false, reduceIte, Bool.false_eq_true, decide_eq_true_eq, Option.map_some, Option.map_none, Option.bind_some, Option.bind_none, Option.some.injEq, Option.join, List.isEmpty_cons, List.isEmpty_nil, List.all_cons, List.all_nil, PM.owned, PM.noLS, PM.noL, PM.noLs, Bool.or_true, Bool.true_or, Bool.or_false, Bool.false_or, Bool.and_true, Bool.true_and, Bool.and_false, Bool.false_and, Bool.not_true, Bool.not_false, Bool.not_not, PM.Ty.sub, PM.sub_self, reduceCtorEq, decide_true, decide_false, eq_self, Nat.zero_add, Nat.reduceAdd, Nat.reduceSub, Nat.reduceLT, Nat.reduceEqDiff, Nat.reduceLeDiff, Int.toNat_natCast, e1, s, a, e2, z1]
  | some r =>
    have e2 : CK [.tup F] = .exc (BF r) := e2
    simp only [PM.tgT, PM.tgs, PM.callE, PM.runF, PM.initE, PM.seqS, PM.asgS, PM.tgS, PM.parS, PM.appS, PM.augS, PM.dropS, PM.retS, PM.retN, PM.retV, PM.ifS, PM.forS, PM.M.thenS, PM.M.bind, PM.M.lift, PM.ret, PM.cst, PM.var, PM.pvar, PM.pk, PM.bin, PM.asB, PM.tru, PM.tand, PM.tor, PM.tnot, PM.vand, PM.vor, PM.vnot, PM.iff, PM.sli, PM.ono, PM.oin, PM.acons, PM.anil, PM.cnil, PM.cval, PM.cvw, PM.lstE, PM.tupE, PM.blt, PM.isi, PM.una, PM.smE, PM.src, PM.rng1, PM.rng2, PM.skip, PM.brkS, PM.cntS, PM.tgN, PM.wpS, PM.wipeE, PM.chn, PM.setS, PM.yes, PM.extS, PM.enumA, PM.zipA, PM.zipTA, PM.clean, PM.lcE, PM.lenSetE, List.length_cons, List.length_nil, List.getElem?_cons_zero, List.getElem?_cons_succ, List.set_cons_zero, List.set_cons_succ, List.map_cons, List.map_nil, List.cons_append, List.nil_append, List.append_nil, List.replicate, List.length_map, List.length_append, List.length_range, if_true, if_false, ite_true, ite_false, reduceIte, Bool.false_eq_true, decide_eq_true_eq, Option.map_some, Option.map_none, Option.bind_some, Option.bind_none, Option.some.injEq, Option.join, List.isEmpty_cons, List.isEmpty_nil, List.all_cons, List.all_nil, PM.owned, PM.noLS, PM.noL, PM.noLs, Bool.or_true, Bool.true_or, Bool.or_false, Bool.false_or, Bool.and_true, Bool.true_and, Bool.and_false, Bool.false_and, Bool.not_true, Bool.not_false, Bool.not_not, PM.Ty.sub, PM.sub_self, reduceCtorEq, decide_true, decide_false, eq_self, Nat.zero_add, Nat.reduceAdd, Nat.reduceSub, Nat.reduceLT, Nat.reduceEqDiff, Nat.reduceLeDiff, Int.toNat_natCast, e1, s, a, e2, z1]
theorem ww_ok {a b c d e f g h i w : Int} : (rsn (tup9 w b c d e 0 g h i) = none → M_with_width [tup9 a b c d e f g h i, .int w] = .ok (false, tup9 w b c d e 0 g h i)) ∧ ∀ r, rsn (tup9 w b c d e 0 g h i) = some r → M_with_width [tup9 a b c d e f g h i, .int w] = .exc (BF r) := by
  have k := check_ok (nice9 w b c d e 0 g h i)
  refine ⟨fun q => ?_, fun r q => ?_⟩
  · rw [q] at k
    exact ww_gen (UN := M_unindented) (CK := M_check_form) (w := w) (o := none) (un_ok a b c d e f g h i) rfl rfl k
  · rw [q] at k
    exact ww_gen (UN := M_unindented) (CK := M_check_form) (w := w) (o := some r) (un_ok a b c d e f g h i) rfl rfl k
theorem refused_ww {v : D} {w : Int} {r : List Nat} (h : okS r = true) (e : M_with_width [v, .int w] = .exc (BF r)) : M__law_refused [v, .str r, .int w] = .ok (false, .bl true) := by
  have b : B1__law_refused [some (false, v), some (false, .str r), some (false, .int w), none] = .exc (BF r) [some (false, v), some (false, .str r), some (false, .int w), none] := by
    unfold B1__law_refused
    generalize M_with_width = CF at *
    simp only [PM.tgT, PM.tgs, PM.callE, PM.runF, PM.initE, PM.seqS, PM.asgS, PM.tgS, PM.parS, PM.appS, PM.augS, PM.dropS, PM.retS, PM.retN, PM.retV, PM.ifS, PM.forS, PM.M.thenS, PM.M.bind, PM.M.lift, PM.ret, PM.cst, PM.var, PM.pvar, PM.pk, PM.bin, PM.asB, PM.tru, PM.tand, PM.tor, PM.tnot, PM.vand, PM.vor, PM.vnot, PM.iff, PM.sli, PM.ono, PM.oin, PM.acons, PM.anil, PM.cnil, PM.cval, PM.cvw, PM.lstE, PM.tupE, PM.blt, PM.isi, PM.una, PM.smE, PM.src, PM.rng1, PM.rng2, PM.skip, PM.brkS, PM.cntS, PM.tgN, PM.wpS, PM.wipeE, PM.chn, PM.setS, PM.yes, PM.extS, PM.enumA, PM.zipA, PM.zipTA, PM.clean, PM.lcE, PM.lenSetE, List.length_cons, List.length_nil, List.getElem?_cons_zero, List.getElem?_cons_succ, List.set_cons_zero, List.set_cons_succ, List.map_cons, List.map_nil, List.cons_append, List.nil_append, List.append_nil, List.replicate, List.length_map, List.length_append, List.length_range, if_true, if_false, ite_true, ite_false, reduceIte, Bool.false_eq_true, decide_eq_true_eq, Option.map_some, Option.map_none, Option.bind_some, Option.bind_none, Option.some.injEq, Option.join, List.isEmpty_cons, List.isEmpty_nil, List.all_cons, List.all_nil, PM.owned, PM.noLS, PM.noL, PM.noLs, Bool.or_true, Bool.true_or, Bool.or_false, Bool.false_or, Bool.and_true, Bool.true_and, Bool.and_false, Bool.false_and, Bool.not_true, Bool.not_false, Bool.not_not, PM.Ty.sub, PM.sub_self, reduceCtorEq, decide_true, decide_false, eq_self, Nat.zero_add, Nat.reduceAdd, Nat.reduceSub, Nat.reduceLT, Nat.reduceEqDiff, Nat.reduceLeDiff, Int.toNat_natCast, PM.truth_bl, PM.is_in, e]
  refine run_rt rfl ?_
  unfold S__law_refused
  refine PM.seq_rt (wp_rt ?_)
  show tryS B1__law_refused H1__law_refused [some (false, v), some (false, .str r), some (false, .int w), none] = _
  unfold tryS
  rw [b]
  exact catch_bf h _ _
theorem qu_gen {UN : FM} {v : D} {a f m : Int} {U C F : List D} (i0 : ixD v (.int 0) = some (false, .int a)) (i5 : ixD v (.int 5) = some (false, .int f)) (ml : mulD (.int 2) (.int f) = some (false, .int m)) (e1 : UN [v] = .ok (false, .tup U)) (s : sliceD (.tup U) (some 1) none = some (false, .tup C)) (ad : addD (.tup [.int (a - m)]) (.tup C) = some (false, .tup F)) :
    runF 1 1 (retS (bin addD (pk (tupE (acons (pk (bin subD (pk (bin ixD (pvar 0) (pk (cst (.int 0))))) (pk (bin mulD (pk (cst (.int 2))) (pk (bin ixD (pvar 0) (pk (cst (.int 5))))))))) anil))) (pk (sli (pk (callE UN (cvw 0 cnil))) (oin (pk (cst (.int 1)))) ono)))) [v] = .ok (false, .tup F) := by
  have z1 := limT (n := 1) (by decide)
  simp only [PM.tgT, PM.tgs, PM.callE, PM.runF, PM.initE, PM.seqS, PM.asgS, PM.tgS, PM.parS, PM.appS, PM.augS, PM.dropS, PM.retS, PM.retN, PM.retV, PM.ifS, PM.forS, PM.M.thenS, PM.M.bind, PM.M.lift, PM.ret, PM.cst, PM.var, PM.pvar, PM.pk, PM.bin, PM.asB, PM.tru, PM.tand, PM.tor, PM.tnot, PM.vand, PM.vor, PM.vnot, PM.iff, PM.sli, PM.ono, PM.oin, PM.acons, PM.anil, PM.cnil, PM.cval, PM.cvw, PM.lstE, PM.tupE, PM.blt, PM.isi, PM.una, PM.smE, PM.src, PM.rng1, PM.rng2, PM.skip, PM.brkS, PM.cntS, PM.tgN, PM.wpS, PM.wipeE, PM.chn, PM.setS, PM.yes, PM.extS, PM.enumA, PM.zipA, PM.zipTA, PM.clean, PM.lcE, PM.lenSetE, List.length_cons, List.length_nil, List.getElem?_cons_zero, List.getElem?_cons_succ, List.set_cons_zero, List.set_cons_succ, List.map_cons, List.map_nil, List.cons_append, List.nil_append, List.append_nil, List.replicate, List.length_map, List.length_append, List.length_range, if_true, if_false, ite_true, ite_false, reduceIte, Bool.false_eq_true, decide_eq_true_eq, Option.map_some, Option.map_none, Option.bind_some, Option.bind_none, Option.some.injEq, Option.join, List.isEmpty_cons, List.isEmpty_nil, List.all_cons, List.all_nil, PM.owned, PM.noLS, PM.noL, PM.noLs, Bool.or_true, Bool.true_or, Bool.or_false, Bool.false_or, Bool.and_true, Bool.true_and, Bool.and_false, Bool.false_and, Bool.not_true, Bool.not_false, Bool.not_not, PM.Ty.sub, PM.sub_self, reduceCtorEq, decide_true, decide_false, eq_self, Nat.zero_add, Nat.reduceAdd, Nat.reduceSub, Nat.reduceLT, Nat.reduceEqDiff, Nat.reduceLeDiff, Int.toNat_natCast, i0, i5, ml, e1, s, PM.sub_ii, ad, z1]
theorem qu_ok (a b c d e f g h i : Int) : M_quoted [tup9 a b c d e f g h i] = .ok (false, tup9 (a - 2 * f) b c d e 0 g h i) :=
  qu_gen (UN := M_unindented) (a := a) (f := f) rfl rfl (mul_l (m := 0) (by decide) (by decide)) (un_ok a b c d e f g h i) rfl rfl
section
variable {S V : D}
def eU (s0 s1 s2 s3 s4 s5 : Option Slot) : PM.Env := [s0, s1, s2, s3, s4, s5]
theorem v1 {LF : FM} (e : LF [S, .int 0] = .ok (false, V)) : asgS 1 (callE LF (cvw 0 (cval (pk (cst (.int 0))) cnil))) (eU (some (false, S)) none none none none none) = .nx (eU (some (false, S)) (some (false, V)) none none none none) := by
  unfold eU
  simp only [PM.tgT, PM.tgs, PM.callE, PM.runF, PM.initE, PM.seqS, PM.asgS, PM.tgS, PM.parS, PM.appS, PM.augS, PM.dropS, PM.retS, PM.retN, PM.retV, PM.ifS, PM.forS, PM.M.thenS, PM.M.bind, PM.M.lift, PM.ret, PM.cst, PM.var, PM.pvar, PM.pk, PM.bin, PM.asB, PM.tru, PM.tand, PM.tor, PM.tnot, PM.vand, PM.vor, PM.vnot, PM.iff, PM.sli, PM.ono, PM.oin, PM.acons, PM.anil, PM.cnil, PM.cval, PM.cvw, PM.lstE, PM.tupE, PM.blt, PM.isi, PM.una, PM.smE, PM.src, PM.rng1, PM.rng2, PM.skip, PM.brkS, PM.cntS, PM.tgN, PM.wpS, PM.wipeE, PM.chn, PM.setS, PM.yes, PM.extS, PM.enumA, PM.zipA, PM.zipTA, PM.clean, PM.lcE, PM.lenSetE, List.length_cons, List.length_nil, List.getElem?_cons_zero, List.getElem?_cons_succ, List.set_cons_zero, List.set_cons_succ, List.map_cons, List.map_nil, List.cons_append, List.nil_append, List.append_nil, List.replicate, List.length_map, List.length_append, List.length_range, if_true, if_false, ite_true, ite_false, reduceIte, Bool.false_eq_true, decide_eq_true_eq, Option.map_some, Option.map_none, Option.bind_some, Option.bind_none, Option.some.injEq, Option.join, List.isEmpty_cons, List.isEmpty_nil, List.all_cons, List.all_nil, PM.owned, PM.noLS, PM.noL, PM.noLs, Bool.or_true, Bool.true_or, Bool.or_false, Bool.false_or, Bool.and_true, Bool.true_and, Bool.and_false, Bool.false_and, Bool.not_true, Bool.not_false, Bool.not_not, PM.Ty.sub, PM.sub_self, reduceCtorEq, decide_true, decide_false, eq_self, Nat.zero_add, Nat.reduceAdd, Nat.reduceSub, Nat.reduceLT, Nat.reduceEqDiff, Nat.reduceLeDiff, Int.toNat_natCast, e]
theorem v2 {CK IF : FM} (e1 : CK [V] = .ok (false, .non)) (e2 : IF [V] = .ok (false, .bl true)) : ifS (tor (asB (bin isNotD (pk (callE CK (cvw 1 cnil))) (pk (cst .non)))) (asB (bin isNotD (pk (callE IF (cvw 1 cnil))) (pk (cst (.bl true)))))) (retS (cst (.bl false))) skip (eU (some (false, S)) (some (false, V)) none none none none) = .nx (eU (some (false, S)) (some (false, V)) none none none none) := by
  have q : isNotD (.bl true) (.bl true) = some (false, .bl false) := rfl
  unfold eU
  simp only [PM.tgT, PM.tgs, PM.callE, PM.runF, PM.initE, PM.seqS, PM.asgS, PM.tgS, PM.parS, PM.appS, PM.augS, PM.dropS, PM.retS, PM.retN, PM.retV, PM.ifS, PM.forS, PM.M.thenS, PM.M.bind, PM.M.lift, PM.ret, PM.cst, PM.var, PM.pvar, PM.pk, PM.bin, PM.asB, PM.tru, PM.tand, PM.tor, PM.tnot, PM.vand, PM.vor, PM.vnot, PM.iff, PM.sli, PM.ono, PM.oin, PM.acons, PM.anil, PM.cnil, PM.cval, PM.cvw, PM.lstE, PM.tupE, PM.blt, PM.isi, PM.una, PM.smE, PM.src, PM.rng1, PM.rng2, PM.skip, PM.brkS, PM.cntS, PM.tgN, PM.wpS, PM.wipeE, PM.chn, PM.setS, PM.yes, PM.extS, PM.enumA, PM.zipA, PM.zipTA, PM.clean, PM.lcE, PM.lenSetE, List.length_cons, List.length_nil, List.getElem?_cons_zero, List.getElem?_cons_succ, List.set_cons_zero, List.set_cons_succ, List.map_cons, List.map_nil, List.cons_append, List.nil_append, List.append_nil, List.replicate, List.length_map, List.length_append, List.length_range, if_true, if_false, ite_true, ite_false, reduceIte, Bool.false_eq_true, decide_eq_true_eq, Option.map_some, Option.map_none, Option.bind_some, Option.bind_none, Option.some.injEq, Option.join, List.isEmpty_cons, List.isEmpty_nil, List.all_cons, List.all_nil, PM.owned, PM.noLS, PM.noL, PM.noLs, Bool.or_true, Bool.true_or, Bool.or_false, Bool.false_or, Bool.and_true, Bool.true_and, Bool.and_false, Bool.false_and, Bool.not_true, Bool.not_false, Bool.not_not, PM.Ty.sub, PM.sub_self, reduceCtorEq, decide_true, decide_false, eq_self, Nat.zero_add, Nat.reduceAdd, Nat.reduceSub, Nat.reduceLT, Nat.reduceEqDiff, Nat.reduceLeDiff, Int.toNat_natCast, PM.truth_bl, PM.isn_nn, q, e1, e2]
theorem v3_turn {CK : FM} {x : D} (e : CK [x] = .ok (false, .bl true)) : wpS [2] (ifS (tnot (tru (pk (callE CK (cvw 2 cnil))))) (retS (cst (.bl false))) skip) (eU (some (false, S)) (some (false, V)) (some (false, x)) none none none) = .nx (eU (some (false, S)) (some (false, V)) none none none none) := by
  unfold eU
  simp only [PM.tgT, PM.tgs, PM.callE, PM.runF, PM.initE, PM.seqS, PM.asgS, PM.tgS, PM.parS, PM.appS, PM.augS, PM.dropS, PM.retS, PM.retN, PM.retV, PM.ifS, PM.forS, PM.M.thenS, PM.M.bind, PM.M.lift, PM.ret, PM.cst, PM.var, PM.pvar, PM.pk, PM.bin, PM.asB, PM.tru, PM.tand, PM.tor, PM.tnot, PM.vand, PM.vor, PM.vnot, PM.iff, PM.sli, PM.ono, PM.oin, PM.acons, PM.anil, PM.cnil, PM.cval, PM.cvw, PM.lstE, PM.tupE, PM.blt, PM.isi, PM.una, PM.smE, PM.src, PM.rng1, PM.rng2, PM.skip, PM.brkS, PM.cntS, PM.tgN, PM.wpS, PM.wipeE, PM.chn, PM.setS, PM.yes, PM.extS, PM.enumA, PM.zipA, PM.zipTA, PM.clean, PM.lcE, PM.lenSetE, List.length_cons, List.length_nil, List.getElem?_cons_zero, List.getElem?_cons_succ, List.set_cons_zero, List.set_cons_succ, List.map_cons, List.map_nil, List.cons_append, List.nil_append, List.append_nil, List.replicate, List.length_map, List.length_append, List.length_range, if_true, if_false, ite_true, ite_false, reduceIte, Bool.false_eq_true, decide_eq_true_eq, Option.map_some, Option.map_none, Option.bind_some, Option.bind_none, Option.some.injEq, Option.join, List.isEmpty_cons, List.isEmpty_nil, List.all_cons, List.all_nil, PM.owned, PM.noLS, PM.noL, PM.noLs, Bool.or_true, Bool.true_or, Bool.or_false, Bool.false_or, Bool.and_true, Bool.true_and, Bool.and_false, Bool.false_and, Bool.not_true, Bool.not_false, Bool.not_not, PM.Ty.sub, PM.sub_self, reduceCtorEq, decide_true, decide_false, eq_self, Nat.zero_add, Nat.reduceAdd, Nat.reduceSub, Nat.reduceLT, Nat.reduceEqDiff, Nat.reduceLeDiff, Int.toNat_natCast, PM.truth_bl, e]
theorem v3_loop : ∀ L : List D, NL L → forF (tgN 2) L1_law L (eU (some (false, S)) (some (false, V)) none none none none) = .nx (eU (some (false, S)) (some (false, V)) none none none none)
  | [], _ => rfl
  | x :: L, h => by
    rw [for_go (S := L1_law) (ρ1 := eU (some (false, S)) (some (false, V)) (some (false, x)) none none none) rfl (v3_turn (CK := M__law_checked) (checked_ok (h x List.mem_cons_self)))]
    exact v3_loop L fun y hy => h y (List.mem_cons_of_mem _ hy)
theorem v4_turn {RE AL WW RF : FM} {X A1 A2 A3 A4 A5 : List D} {w : Int} {s0 : Option Slot} {o : Option (List Nat)} (s1 : sliceD (.tup X) (some 1) (some 5) = some (false, .tup A1)) (a1 : addD (.tup [.int w]) (.tup A1) = some (false, .tup A2)) (a2 : addD (.tup A2) (.tup [.int 0]) = some (false, .tup A3)) (s2 : sliceD (.tup X) (some 6) none = some (false, .tup A4)) (a3 : addD (.tup A3) (.tup A4) = some (false, .tup A5))
    (e1 : RE [.tup A5] = .ok (false, rsD o)) (e2 : o = none → WW [.tup X, .int w] = .ok (false, .tup A5)) (e3 : AL [.tup A5, .tup A5] = .ok (false, .bl true)) (e4 : ∀ r, o = some r → RF [.tup X, .str r, .int w] = .ok (false, .bl true)) :
    wpS [3, 4, 5] (seqS (wpS [0] (asgS 4 (bin addD (pk (bin addD (pk (bin addD (pk (tupE (acons (pk (var 3)) anil))) (pk (sli (pvar 1) (oin (pk (cst (.int 1)))) (oin (pk (cst (.int 5)))))))) (pk (tupE (acons (pk (cst (.int 0))) anil))))) (pk (sli (pvar 1) (oin (pk (cst (.int 6)))) ono)))))
  (seqS (asgS 5 (callE RE (cvw 4 cnil)))
  (ifS (asB (bin isD (pvar 5) (pk (cst .non))))
  (ifS (tnot (tru (pk (callE AL (cval (pk (callE WW (cvw 1 (cvw 3 cnil)))) (cvw 4 cnil)))))) (retS (cst (.bl false))) skip)
  (ifS (tnot (tru (pk (callE RF (cvw 1 (cvw 5 (cvw 3 cnil))))))) (retS (cst (.bl false))) skip))))
      (eU s0 (some (false, .tup X)) none (some (false, .int w)) none none) = .nx (eU none (some (false, .tup X)) none none none none) := by
  have z1 := limT (n := 1) (by decide)
  unfold eU
  cases o with
  | none =>
    have e1 : RE [.tup A5] = .ok (false, .non) := e1
    have e2 := e2 rfl
    simp only [PM.tgT, PM.tgs, PM.callE, PM.runF, PM.initE, PM.seqS, PM.asgS, PM.tgS, PM.parS, PM.appS, PM.augS, PM.dropS, PM.retS, PM.retN, PM.retV, PM.ifS, PM.forS, PM.M.thenS, PM.M.bind, PM.M.lift, PM.ret, PM.cst, PM.var, PM.pvar, PM.pk, PM.bin, PM.asB, PM.tru, PM.tand, PM.tor, PM.tnot, PM.vand, PM.vor, PM.vnot, PM.iff, PM.sli, PM.ono, PM.oin, PM.acons, PM.anil, PM.cnil, PM.cval, PM.cvw, PM.lstE, PM.tupE, PM.blt, PM.isi, PM.una, PM.smE, PM.src, PM.rng1, PM.rng2, PM.skip, PM.brkS, PM.cntS, PM.tgN, PM.wpS, PM.wipeE, PM.chn, PM.setS, PM.yes, PM.extS, PM.enumA, PM.zipA, PM.zipTA, PM.clean, PM.lcE, PM.lenSetE, List.length_cons, List.length_nil, List.getElem?_cons_zero, List.getElem?_cons_succ, List.set_cons_zero, List.set_cons_succ, List.map_cons, List.map_nil, List.cons_append, List.nil_append, List.append_nil, List.replicate, List.length_map, List.length_append, List.length_range, if_true, if_false, ite_true, ite_false, reduceIte, Bool.false_eq_true, decide_eq_true_eq, Option.map_some, Option.map_none, Option.bind_some, Option.bind_none, Option.some.injEq, Option.join, List.isEmpty_cons, List.isEmpty_nil, List.all_cons, List.all_nil, PM.owned, PM.noLS, PM.noL, PM.noLs, Bool.or_true, Bool.true_or, Bool.or_false, Bool.false_or, Bool.and_true, Bool.true_and, Bool.and_false, Bool.false_and, Bool.not_true, Bool.not_false, Bool.not_not, PM.Ty.sub, PM.sub_self, reduceCtorEq, decide_true, decide_false, eq_self, Nat.zero_add, Nat.reduceAdd, Nat.reduceSub, Nat.reduceLT, Nat.reduceEqDiff, Nat.reduceLeDiff, Int.toNat_natCast, PM.truth_bl, PM.is_nn, s1, a1, a2, s2, a3, e1, e2, e3, z1]
  | some r =>
    have e1 : RE [.tup A5] = .ok (false, .str r) := e1
    have e4 := e4 r rfl
    simp only [PM.tgT, PM.tgs, PM.callE, PM.runF, PM.initE, PM.seqS, PM.asgS, PM.tgS, PM.parS, PM.appS, PM.augS, PM.dropS, PM.retS, PM.retN, PM.retV, PM.ifS, PM.forS, PM.M.thenS, PM.M.bind, PM.M.lift, PM.ret, PM.cst, PM.var, PM.pvar, PM.pk, PM.bin, PM.asB, PM.tru, PM.tand, PM.tor, PM.tnot, PM.vand, PM.vor, PM.vnot, PM.iff, PM.sli, PM.ono, PM.oin, PM.acons, PM.anil, PM.cnil, PM.cval, PM.cvw, PM.lstE, PM.tupE, PM.blt, PM.isi, PM.una, PM.smE, PM.src, PM.rng1, PM.rng2, PM.skip, PM.brkS, PM.cntS, PM.tgN, PM.wpS, PM.wipeE, PM.chn, PM.setS, PM.yes, PM.extS, PM.enumA, PM.zipA, PM.zipTA, PM.clean, PM.lcE, PM.lenSetE, List.length_cons, List.length_nil, List.getElem?_cons_zero, List.getElem?_cons_succ, List.set_cons_zero, List.set_cons_succ, List.map_cons, List.map_nil, List.cons_append, List.nil_append, List.append_nil, List.replicate, List.length_map, List.length_append, List.length_range, if_true, if_false, ite_true, ite_false, reduceIte, Bool.false_eq_true, decide_eq_true_eq, Option.map_some, Option.map_none, Option.bind_some, Option.bind_none, Option.some.injEq, Option.join, List.isEmpty_cons, List.isEmpty_nil, List.all_cons, List.all_nil, PM.owned, PM.noLS, PM.noL, PM.noLs, Bool.or_true, Bool.true_or, Bool.or_false, Bool.false_or, Bool.and_true, Bool.true_and, Bool.and_false, Bool.false_and, Bool.not_true, Bool.not_false, Bool.not_not, PM.Ty.sub, PM.sub_self, reduceCtorEq, decide_true, decide_false, eq_self, Nat.zero_add, Nat.reduceAdd, Nat.reduceSub, Nat.reduceLT, Nat.reduceEqDiff, Nat.reduceLeDiff, Int.toNat_natCast, PM.truth_bl, PM.is_sn, s1, a1, a2, s2, a3, e1, e4, z1]
theorem al9 (a b c d e f g h i : Int) : M__law_alike 12 [tup9 a b c d e f g h i, tup9 a b c d e f g h i] = .ok (false, .bl true) := alike_ok 12 _ rfl (show 1 < 12 by decide)
theorem v4_loop {a b c d e f g h i : Int} : ∀ (W : List Int) (s0 : Option Slot), ∃ s0', forF (tgN 3) L2_law (W.map D.int) (eU s0 (some (false, tup9 a b c d e f g h i)) none none none none) = .nx (eU s0' (some (false, tup9 a b c d e f g h i)) none none none none)
  | [], s0 => ⟨s0, rfl⟩
  | w :: W, s0 => by
    obtain ⟨s0', e'⟩ := v4_loop W none
    refine ⟨s0', ?_⟩
    have k := ww_ok (a := a) (b := b) (c := c) (d := d) (e := e) (f := f) (g := g) (h := h) (i := i) (w := w)
    have t := v4_turn (RE := M__law_reason) (AL := M__law_alike 12) (WW := M_with_width) (RF := M__law_refused) (X := [.int a, .int b, .int c, .int d, .int e, .int f, .int g, .int h, .int i]) (w := w) (s0 := s0) (o := rsn (tup9 w b c d e 0 g h i)) (A5 := [.int w, .int b, .int c, .int d, .int e, .int 0, .int g, .int h, .int i]) rfl rfl rfl rfl rfl (reason_ok (nice9 w b c d e 0 g h i)) k.1 (al9 w b c d e 0 g h i) fun r q => refused_ww (rsn_okS q) (k.2 r q)
    rw [List.map_cons, for_go (S := L2_law) (ρ1 := eU s0 (some (false, tup9 a b c d e f g h i)) none (some (false, .int w)) none none) rfl t]
    exact e'
theorem v4_src {NU : FM} {B : List D} {a f m x m2 : Int} (i0 : ixD V (.int 0) = some (false, .int a)) (i5 : ixD V (.int 5) = some (false, .int f)) (ml : mulD (.int 2) (.int f) = some (false, .int m)) (e : NU [S, .int 1, .int 1] = .ok (true, .lst B)) (ib : ixD (.lst B) (.int 0) = some (false, .int x)) (ml2 : mulD (.int x) (.int 99) = some (false, .int m2)) :
    src (pk (lstE (acons (pk (cst (.int 0))) (acons (pk (cst (.int 1))) (acons (pk (bin addD (pk (bin ixD (pvar 1) (pk (cst (.int 0))))) (pk (cst (.int 1))))) (acons (pk (cst (.int 99999))) (acons (pk (cst (.int 100000))) (acons (pk (una negD (pk (cst (.int 1))))) (acons (pk (bin mulD (pk (cst (.int 2))) (pk (bin ixD (pvar 1) (pk (cst (.int 5))))))) (acons (pk (bin mulD (pk (bin ixD (pk (callE NU (cvw 0 (cval (pk (cst (.int 1))) (cval (pk (cst (.int 1))) cnil))))) (pk (cst (.int 0))))) (pk (cst (.int 99))))) anil))))))))))
      (eU (some (false, S)) (some (false, V)) none none none none) = .ok ([0, 1, a + 1, 99999, 100000, -1, m, m2].map D.int) (eU (some (false, S)) (some (false, V)) none none none none) := by
  have z8 := limT (n := 8) (by decide)
  unfold eU
  simp only [PM.tgT, PM.tgs, PM.callE, PM.runF, PM.initE, PM.seqS, PM.asgS, PM.tgS, PM.parS, PM.appS, PM.augS, PM.dropS, PM.retS, PM.retN, PM.retV, PM.ifS, PM.forS, PM.M.thenS, PM.M.bind, PM.M.lift, PM.ret, PM.cst, PM.var, PM.pvar, PM.pk, PM.bin, PM.asB, PM.tru, PM.tand, PM.tor, PM.tnot, PM.vand, PM.vor, PM.vnot, PM.iff, PM.sli, PM.ono, PM.oin, PM.acons, PM.anil, PM.cnil, PM.cval, PM.cvw, PM.lstE, PM.tupE, PM.blt, PM.isi, PM.una, PM.smE, PM.src, PM.rng1, PM.rng2, PM.skip, PM.brkS, PM.cntS, PM.tgN, PM.wpS, PM.wipeE, PM.chn, PM.setS, PM.yes, PM.extS, PM.enumA, PM.zipA, PM.zipTA, PM.clean, PM.lcE, PM.lenSetE, List.length_cons, List.length_nil, List.getElem?_cons_zero, List.getElem?_cons_succ, List.set_cons_zero, List.set_cons_succ, List.map_cons, List.map_nil, List.cons_append, List.nil_append, List.append_nil, List.replicate, List.length_map, List.length_append, List.length_range, if_true, if_false, ite_true, ite_false, reduceIte, Bool.false_eq_true, decide_eq_true_eq, Option.map_some, Option.map_none, Option.bind_some, Option.bind_none, Option.some.injEq, Option.join, List.isEmpty_cons, List.isEmpty_nil, List.all_cons, List.all_nil, PM.owned, PM.noLS, PM.noL, PM.noLs, Bool.or_true, Bool.true_or, Bool.or_false, Bool.false_or, Bool.and_true, Bool.true_and, Bool.and_false, Bool.false_and, Bool.not_true, Bool.not_false, Bool.not_not, PM.Ty.sub, PM.sub_self, reduceCtorEq, decide_true, decide_false, eq_self, Nat.zero_add, Nat.reduceAdd, Nat.reduceSub, Nat.reduceLT, Nat.reduceEqDiff, Nat.reduceLeDiff, Int.toNat_natCast, i0, i5, ml, e, ib, ml2, PM.add_ii, PM.neg_i, PM.it_lst, z8]
theorem v5 {AL UN : FM} {X A1 A2 A3 A4 : List D} (e1 : UN [.tup X] = .ok (false, .tup A4)) (s1 : sliceD (.tup X) none (some 5) = some (false, .tup A1)) (a1 : addD (.tup A1) (.tup [.int 0]) = some (false, .tup A2)) (s2 : sliceD (.tup X) (some 6) none = some (false, .tup A3)) (a2 : addD (.tup A2) (.tup A3) = some (false, .tup A4)) (e2 : AL [.tup A4, .tup A4] = .ok (false, .bl true)) :
    ifS (tnot (tru (pk (callE AL (cval (pk (callE UN (cvw 1 cnil))) (cval (pk (bin addD (pk (bin addD (pk (sli (pvar 1) ono (oin (pk (cst (.int 5)))))) (pk (tupE (acons (pk (cst (.int 0))) anil))))) (pk (sli (pvar 1) (oin (pk (cst (.int 6)))) ono)))) cnil)))))) (retS (cst (.bl false))) skip (eU none (some (false, .tup X)) none none none none) = .nx (eU none (some (false, .tup X)) none none none none) := by
  have z1 := limT (n := 1) (by decide)
  unfold eU
  simp only [PM.tgT, PM.tgs, PM.callE, PM.runF, PM.initE, PM.seqS, PM.asgS, PM.tgS, PM.parS, PM.appS, PM.augS, PM.dropS, PM.retS, PM.retN, PM.retV, PM.ifS, PM.forS, PM.M.thenS, PM.M.bind, PM.M.lift, PM.ret, PM.cst, PM.var, PM.pvar, PM.pk, PM.bin, PM.asB, PM.tru, PM.tand, PM.tor, PM.tnot, PM.vand, PM.vor, PM.vnot, PM.iff, PM.sli, PM.ono, PM.oin, PM.acons, PM.anil, PM.cnil, PM.cval, PM.cvw, PM.lstE, PM.tupE, PM.blt, PM.isi, PM.una, PM.smE, PM.src, PM.rng1, PM.rng2, PM.skip, PM.brkS, PM.cntS, PM.tgN, PM.wpS, PM.wipeE, PM.chn, PM.setS, PM.yes, PM.extS, PM.enumA, PM.zipA, PM.zipTA, PM.clean, PM.lcE, PM.lenSetE, List.length_cons, List.length_nil, List.getElem?_cons_zero, List.getElem?_cons_succ, List.set_cons_zero, List.set_cons_succ, List.map_cons, List.map_nil, List.cons_append, List.nil_append, List.append_nil, List.replicate, List.length_map, List.length_append, List.length_range, if_true, if_false, ite_true, ite_false, reduceIte, Bool.false_eq_true, decide_eq_true_eq, Option.map_some, Option.map_none, Option.bind_some, Option.bind_none, Option.some.injEq, Option.join, List.isEmpty_cons, List.isEmpty_nil, List.all_cons, List.all_nil, PM.owned, PM.noLS, PM.noL, PM.noLs, Bool.or_true, Bool.true_or, Bool.or_false, Bool.false_or, Bool.and_true, Bool.true_and, Bool.and_false, Bool.false_and, Bool.not_true, Bool.not_false, Bool.not_not, PM.Ty.sub, PM.sub_self, reduceCtorEq, decide_true, decide_false, eq_self, Nat.zero_add, Nat.reduceAdd, Nat.reduceSub, Nat.reduceLT, Nat.reduceEqDiff, Nat.reduceLeDiff, Int.toNat_natCast, PM.truth_bl, e1, s1, a1, s2, a2, e2, z1]
theorem v6 {X A1 A2 A3 A4 A5 : List D} {a f m : Int} (i0 : ixD (.tup X) (.int 0) = some (false, .int a)) (i5 : ixD (.tup X) (.int 5) = some (false, .int f)) (ml : mulD (.int 2) (.int f) = some (false, .int m)) (s1 : sliceD (.tup X) (some 1) (some 5) = some (false, .tup A1)) (a1 : addD (.tup [.int (a - m)]) (.tup A1) = some (false, .tup A2)) (a2 : addD (.tup A2) (.tup [.int 0]) = some (false, .tup A3)) (s2 : sliceD (.tup X) (some 6) none = some (false, .tup A4)) (a3 : addD (.tup A3) (.tup A4) = some (false, .tup A5)) :
    T6_law (eU none (some (false, .tup X)) none none none none) = .nx (eU none (some (false, .tup X)) none none (some (false, .tup A5)) none) := by
  have z1 := limT (n := 1) (by decide)
  unfold T6_law eU
  simp only [PM.tgT, PM.tgs, PM.callE, PM.runF, PM.initE, PM.seqS, PM.asgS, PM.tgS, PM.parS, PM.appS, PM.augS, PM.dropS, PM.retS, PM.retN, PM.retV, PM.ifS, PM.forS, PM.M.thenS, PM.M.bind, PM.M.lift, PM.ret, PM.cst, PM.var, PM.pvar, PM.pk, PM.bin, PM.asB, PM.tru, PM.tand, PM.tor, PM.tnot, PM.vand, PM.vor, PM.vnot, PM.iff, PM.sli, PM.ono, PM.oin, PM.acons, PM.anil, PM.cnil, PM.cval, PM.cvw, PM.lstE, PM.tupE, PM.blt, PM.isi, PM.una, PM.smE, PM.src, PM.rng1, PM.rng2, PM.skip, PM.brkS, PM.cntS, PM.tgN, PM.wpS, PM.wipeE, PM.chn, PM.setS, PM.yes, PM.extS, PM.enumA, PM.zipA, PM.zipTA, PM.clean, PM.lcE, PM.lenSetE, List.length_cons, List.length_nil, List.getElem?_cons_zero, List.getElem?_cons_succ, List.set_cons_zero, List.set_cons_succ, List.map_cons, List.map_nil, List.cons_append, List.nil_append, List.append_nil, List.replicate, List.length_map, List.length_append, List.length_range, if_true, if_false, ite_true, ite_false, reduceIte, Bool.false_eq_true, decide_eq_true_eq, Option.map_some, Option.map_none, Option.bind_some, Option.bind_none, Option.some.injEq, Option.join, List.isEmpty_cons, List.isEmpty_nil, List.all_cons, List.all_nil, PM.owned, PM.noLS, PM.noL, PM.noLs, Bool.or_true, Bool.true_or, Bool.or_false, Bool.false_or, Bool.and_true, Bool.true_and, Bool.and_false, Bool.false_and, Bool.not_true, Bool.not_false, Bool.not_not, PM.Ty.sub, PM.sub_self, reduceCtorEq, decide_true, decide_false, eq_self, Nat.zero_add, Nat.reduceAdd, Nat.reduceSub, Nat.reduceLT, Nat.reduceEqDiff, Nat.reduceLeDiff, Int.toNat_natCast, i0, i5, ml, s1, a1, a2, s2, a3, PM.sub_ii, z1]
theorem v7 {AL QU UN : FM} {U : D} (e1 : QU [V] = .ok (false, U)) (e2 : AL [U, U] = .ok (false, .bl true)) (e3 : QU [U] = .ok (false, U)) (e4 : UN [U] = .ok (false, U)) :
    retS (vand (callE AL (cval (pk (callE QU (cvw 1 cnil))) (cvw 4 cnil))) (vand (callE AL (cval (pk (callE QU (cvw 4 cnil))) (cvw 4 cnil))) (callE AL (cval (pk (callE UN (cvw 4 cnil))) (cvw 4 cnil))))) (eU none (some (false, V)) none none (some (false, U)) none) = .rt (false, .bl true) := by
  unfold eU
  simp only [PM.tgT, PM.tgs, PM.callE, PM.runF, PM.initE, PM.seqS, PM.asgS, PM.tgS, PM.parS, PM.appS, PM.augS, PM.dropS, PM.retS, PM.retN, PM.retV, PM.ifS, PM.forS, PM.M.thenS, PM.M.bind, PM.M.lift, PM.ret, PM.cst, PM.var, PM.pvar, PM.pk, PM.bin, PM.asB, PM.tru, PM.tand, PM.tor, PM.tnot, PM.vand, PM.vor, PM.vnot, PM.iff, PM.sli, PM.ono, PM.oin, PM.acons, PM.anil, PM.cnil, PM.cval, PM.cvw, PM.lstE, PM.tupE, PM.blt, PM.isi, PM.una, PM.smE, PM.src, PM.rng1, PM.rng2, PM.skip, PM.brkS, PM.cntS, PM.tgN, PM.wpS, PM.wipeE, PM.chn, PM.setS, PM.yes, PM.extS, PM.enumA, PM.zipA, PM.zipTA, PM.clean, PM.lcE, PM.lenSetE, List.length_cons, List.length_nil, List.getElem?_cons_zero, List.getElem?_cons_succ, List.set_cons_zero, List.set_cons_succ, List.map_cons, List.map_nil, List.cons_append, List.nil_append, List.append_nil, List.replicate, List.length_map, List.length_append, List.length_range, if_true, if_false, ite_true, ite_false, reduceIte, Bool.false_eq_true, decide_eq_true_eq, Option.map_some, Option.map_none, Option.bind_some, Option.bind_none, Option.some.injEq, Option.join, List.isEmpty_cons, List.isEmpty_nil, List.all_cons, List.all_nil, PM.owned, PM.noLS, PM.noL, PM.noLs, Bool.or_true, Bool.true_or, Bool.or_false, Bool.false_or, Bool.and_true, Bool.true_and, Bool.and_false, Bool.false_and, Bool.not_true, Bool.not_false, Bool.not_not, PM.Ty.sub, PM.sub_self, reduceCtorEq, decide_true, decide_false, eq_self, Nat.zero_add, Nat.reduceAdd, Nat.reduceSub, Nat.reduceLT, Nat.reduceEqDiff, Nat.reduceLeDiff, Int.toNat_natCast, PM.truth_bl, e1, e2, e3, e4]
end
theorem nine_of (a b c d e f g h i : Int) : Nine [.int a, .int b, .int c, .int d, .int e, .int f, .int g, .int h, .int i] where
  len := rfl
  nice := fun x hx => by
    simp only [List.mem_cons, List.not_mem_nil, or_false] at hx
    rcases hx with rfl | rfl | rfl | rfl | rfl | rfl | rfl | rfl | rfl <;> rfl
  at_ := fun j hj => by
    have h9 : j = 0 ∨ j = 1 ∨ j = 2 ∨ j = 3 ∨ j = 4 ∨ j = 5 ∨ j = 6 ∨ j = 7 ∨ j = 8 := by omega
    rcases h9 with rfl | rfl | rfl | rfl | rfl | rfl | rfl | rfl | rfl <;> exact ⟨_, rfl⟩
theorem law_true (ns : List Int) (hl : ns.length ≤ 63) : M_law [PM.scr ns] = .ok (false, .bl true) := by
  obtain ⟨a, b, c, d, e, f, g, h, i, F, eF⟩ := form_ok ns hl
  have hr : rsn (tup9 a b c d e f g h i) = none := (if_pos F.all).trans F.why
  have eC := check_ok (nice9 a b c d e f g h i)
  have eI := isform_ok (nice9 a b c d e f g h i)
  rw [hr] at eC eI
  have eC : M_check_form [tup9 a b c d e f g h i] = .ok (false, .non) := eC
  have eI : M_is_form [tup9 a b c d e f g h i] = .ok (false, .bl true) := eI
  obtain ⟨L, nL, eL⟩ := changed_ok (nine_of a b c d e f g h i)
  obtain ⟨l1, N1, E1⟩ := numbers_ok ns hl (a := 1) (c := 1) (n := 1) (by decide) (by decide) rfl (by decide) (by decide)
  obtain ⟨x0, i0, a0, b0⟩ := get3 N1 (i := 0) (by decide)
  have k3 := v3_loop (S := .lst (ns.map D.int)) (V := tup9 a b c d e f g h i) L nL
  have s4 := v4_src (NU := M__law_numbers) (S := .lst (ns.map D.int)) (V := tup9 a b c d e f g h i) rfl rfl (mul_l (m := 0) (by decide) (by decide)) E1 i0 (mul_r (i := x0) (j := 99) (by decide) (by decide))
  obtain ⟨s0, k4⟩ := v4_loop (a := a) (b := b) (c := c) (d := d) (e := e) (f := f) (g := g) (h := h) (i := i) [0, 1, a + 1, 99999, 100000, -1, 2 * f, x0 * 99] (some (false, .lst (ns.map D.int)))
  have y5 := v5 (AL := M__law_alike 12) (UN := M_unindented) (un_ok a b c d e f g h i) rfl rfl rfl rfl (al9 a b c d e 0 g h i)
  have y6 := v6 (X := [.int a, .int b, .int c, .int d, .int e, .int f, .int g, .int h, .int i]) rfl rfl (mul_l (m := 0) (by decide) (by decide)) rfl rfl rfl rfl rfl
  have q2 := qu_ok (a - 2 * f) b c d e 0 g h i
  rw [show a - 2 * f - 2 * 0 = a - 2 * f by omega] at q2
  have y7 := v7 (AL := M__law_alike 12) (QU := M_quoted) (UN := M_unindented) (qu_ok a b c d e f g h i) (al9 (a - 2 * f) b c d e 0 g h i) q2 (un_ok (a - 2 * f) b c d e 0 g h i)
  have ls : PM.scr ns = .lst (ns.map D.int) := rfl
  rw [ls]
  have s3 : src (pk (callE M__law_changed (cvw 1 cnil))) (eU (some (false, .lst (ns.map D.int))) (some (false, tup9 a b c d e f g h i)) none none none none) = .ok L (eU (some (false, .lst (ns.map D.int))) (some (false, tup9 a b c d e f g h i)) none none none none) := by
    unfold eU
    generalize M__law_changed = CH at *
    simp only [PM.tgT, PM.tgs, PM.callE, PM.runF, PM.initE, PM.seqS, PM.asgS, PM.tgS, PM.parS, PM.appS, PM.augS, PM.dropS, PM.retS, PM.retN, PM.retV, PM.ifS, PM.forS, PM.M.thenS, PM.M.bind, PM.M.lift, PM.ret, PM.cst, PM.var, PM.pvar, PM.pk, PM.bin, PM.asB, PM.tru, PM.tand, PM.tor, PM.tnot, PM.vand, PM.vor, PM.vnot, PM.iff, PM.sli, PM.ono, PM.oin, PM.acons, PM.anil, PM.cnil, PM.cval, PM.cvw, PM.lstE, PM.tupE, PM.blt, PM.isi, PM.una, PM.smE, PM.src, PM.rng1, PM.rng2, PM.skip, PM.brkS, PM.cntS, PM.tgN, PM.wpS, PM.wipeE, PM.chn, PM.setS, PM.yes, PM.extS, PM.enumA, PM.zipA, PM.zipTA, PM.clean, PM.lcE, PM.lenSetE, List.length_cons, List.length_nil, List.getElem?_cons_zero, List.getElem?_cons_succ, List.set_cons_zero, List.set_cons_succ, List.map_cons, List.map_nil, List.cons_append, List.nil_append, List.append_nil, List.replicate, List.length_map, List.length_append, List.length_range, if_true, if_false, ite_true, ite_false, reduceIte, Bool.false_eq_true, decide_eq_true_eq, Option.map_some, Option.map_none, Option.bind_some, Option.bind_none, Option.some.injEq, Option.join, List.isEmpty_cons, List.isEmpty_nil, List.all_cons, List.all_nil, PM.owned, PM.noLS, PM.noL, PM.noLs, Bool.or_true, Bool.true_or, Bool.or_false, Bool.false_or, Bool.and_true, Bool.true_and, Bool.and_false, Bool.false_and, Bool.not_true, Bool.not_false, Bool.not_not, PM.Ty.sub, PM.sub_self, reduceCtorEq, decide_true, decide_false, eq_self, Nat.zero_add, Nat.reduceAdd, Nat.reduceSub, Nat.reduceLT, Nat.reduceEqDiff, Nat.reduceLeDiff, Int.toNat_natCast, eL, PM.it_lst]
  refine run_rt rfl ?_
  unfold S_law
  refine go (S1 := T1_law) (v1 (LF := M__law_form) eF) (go (S1 := T2_law) (v2 (CK := M_check_form) (IF := M_is_form) eC eI) ?_)
  refine go (S1 := T3_law) ((for_nx s3).trans k3) ?_
  refine go (S1 := T4_law) ((wp_nx (js := [0]) ((for_nx s4).trans k4)).trans rfl) ?_
  exact go (S1 := T5_law) y5 (go y6 y7)
end LawW
open PySem PySem.W PySem.Calls PyProof.Rows
theorem PySem.Challenge.cw_inkedtrue_k40_page_forms_holds : PySem.Challenge.rw_inkedtrue_k40_page_forms.Holds := by
  w_on; o_law
  refine HandSHeadRun.head_any (r := OpenLaw.row PySem.Challenge.rw_inkedtrue_k40_page_forms) (q := view (OpenLaw.row PySem.Challenge.rw_inkedtrue_k40_page_forms).prog [27]) (H := LawW.hk) (ob := LawW.ob) (M := 20000) (loose := LawW.loose) (d := HandSHeadRun.topDef (OpenLaw.row PySem.Challenge.rw_inkedtrue_k40_page_forms).prog 27) (kwd := []) LawW.ob_eq
    (by kernel_rfl) (fun s => by kernel_rfl) LawW.run (by kernel_rfl) (by kernel_rfl) (by kernel_rfl) (by rfl) (by first | assumption | decide +kernel) (by decide +kernel) ⟨rfl, rfl, rfl, rfl, rfl, by decide +kernel⟩ ?hw ?hc
  case hw => w_witness2
  case hc =>
    refine L2.walk_ofE (l := PySem.Challenge.rw_inkedtrue_k40_page_forms) (n := 63) (k := 16) (x := "script") (CX := PM.CXU (PySem.Challenge.rw_inkedtrue_k40_page_forms).prog) rfl (by decide) (by kernel_rfl) ⟨rfl, by decide, by decide⟩ ?F (fun H s e s' h => PM.cxu_no H s e s' h)
    intro w mg fa h Y G hmg0
    obtain ⟨K, KX, c, hno, hex, hcs⟩ := Y
    have hmg : mg ("law" : PySem.Str) = some (.ref fa) := by
      have e : (HandSHeadRun.topDef (OpenLaw.row PySem.Challenge.rw_inkedtrue_k40_page_forms).prog 27).name = ("law" : PySem.Str) := by kernel_rfl
      rw [← e]
      exact hmg0
    obtain ⟨x⟩ := LawW.facts KX G c hex hcs
    have e := hmg.symm.trans x.g_law
    have e : fa = x.a_law := by
      cases e
      rfl
    subst e
    have b := L2.FunD.bindsA (ps := ["script"]) x.F_law fun _ _ _ _ _ _ us hl => match us, hl with | [_], _ => rfl
    exact ⟨K, x.d_law, PM.spF K mg LawW.M_law 1, KX, fun s v => b s [v] rfl, fun H a ns hl _ hS => PM.law_sp hno LawW.law_true H a ns hl hS, fun base _ _ => PM.cxu (LawW.ok_law x)⟩
