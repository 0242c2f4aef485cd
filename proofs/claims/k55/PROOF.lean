import PyProof.Rows.All
import Wide.All
import OpenK.AllK
import Wide.FinOn
import HandS.ForMost
import HandS.Evl
import HandS.EndBits
import HandS.Wide
import HandS.IsInst
import HandS.Flow
import HandS.Walk
import HandS.WideBits
import HandS.Style
import HandS.StrMore
import HandS.ExcInit
import HandS.WordsExc
import HandS.ClsMeth
import HandS.ExcField
import HandS.ExcIs
import HandS.ExcOwn
import KE.KExcIs
import KE.RegKIsAll
import HandS.TryMany
import HandS.TryOnly
import PySem.Challenge.RW_farmarks_k55_rounded
set_option Elab.async false
set_option linter.all false
set_option maxRecDepth 100000
set_option maxHeartbeats 4000000
/-! DL: values as data, slots that own, and the words WE, WT, WS over the readings. -/
namespace DL
open PySem PySem.Spec PyProof.Rows L2
open Evl (Ex)
abbrev St := L2.St

inductive D where
  | non | bl (b : Bool) | int (i : Int) | str (x : Str) | ty (n : String) | ptr (a : Addr)
  | lst (xs : List D) | ro (xs : List D) | tup (xs : List D) | dct (kvs : List (Key × D)) | obj (C : Addr) (fs : List (Str × D))

section
variable (K : PySem.W.Frag) (G : Hp)
mutual
def Rep : D → V → Prop
  | .non, v => v = .non
  | .bl b, v => v = .bl b
  | .int i, v => v = .int i
  | .str x, v => v = .str x
  | .ty n, v => v = .ty n
  | .ptr a, v => v = .ref a
  | .lst ds, v => ∃ a xs, v = .ref a ∧ Rd G a (.lst xs) ∧ Reps ds xs
  | .ro ds, v => ∃ a xs, v = .ref a ∧ SqL K G a xs ∧ Reps ds xs
  | .tup ds, v => ∃ a xs, v = .ref a ∧ SqT K G a xs ∧ Reps ds xs
  | .dct kds, v => ∃ a kvs, v = .ref a ∧ Rd G a (.dK kvs) ∧ RepK kds kvs
  | .obj C fs, v => ∃ a dx fvs, v = .ref a ∧ G a = some (.ins C dx fvs) ∧ RepF fs fvs
def Reps : List D → List V → Prop
  | [], vs => vs = []
  | d :: ds, vs => ∃ v vr, vs = v :: vr ∧ Rep d v ∧ Reps ds vr
def RepK : List (Key × D) → List (Key × V) → Prop
  | [], vs => vs = []
  | (k, d) :: ds, vs => ∃ v vr, vs = (k, v) :: vr ∧ Rep d v ∧ RepK ds vr
def RepF : List (Str × D) → List (Str × V) → Prop
  | [], vs => vs = []
  | (k, d) :: ds, vs => ∃ v vr, vs = (k, v) :: vr ∧ Rep d v ∧ RepF ds vr
end
end
section
variable {K : PySem.W.Frag} {G G' : Hp}
mutual
theorem Rep.mono (e : Ex G G') : ∀ {d : D} {v : V}, Rep K G d v → Rep K G' d v
  | .non, _, h => h
  | .bl _, _, h => h
  | .int _, _, h => h
  | .str _, _, h => h
  | .ty _, _, h => h
  | .ptr _, _, h => h
  | .lst ds, v, h => by
    unfold Rep at h ⊢
    obtain ⟨a, xs, e1, h1, h2⟩ := h
    exact ⟨a, xs, e1, Evl.ex_rd e h1, Reps.mono e h2⟩
  | .ro ds, v, h => by
    unfold Rep at h ⊢
    obtain ⟨a, xs, e1, h1, h2⟩ := h
    exact ⟨a, xs, e1, Evl.ex_l e h1, Reps.mono e h2⟩
  | .tup ds, v, h => by
    unfold Rep at h ⊢
    obtain ⟨a, xs, e1, h1, h2⟩ := h
    exact ⟨a, xs, e1, Evl.ex_t e h1, Reps.mono e h2⟩
  | .dct ds, v, h => by
    unfold Rep at h ⊢
    obtain ⟨a, xs, e1, h1, h2⟩ := h
    exact ⟨a, xs, e1, Evl.ex_rd e h1, RepK.mono e h2⟩
  | .obj C fs, v, h => by
    unfold Rep at h ⊢
    obtain ⟨a, dx, xs, e1, h1, h2⟩ := h
    exact ⟨a, dx, xs, e1, e _ _ h1, RepF.mono e h2⟩
theorem Reps.mono (e : Ex G G') : ∀ {ds : List D} {vs : List V}, Reps K G ds vs → Reps K G' ds vs
  | [], _, h => h
  | d :: ds, vs, h => by
    unfold Reps at h ⊢
    obtain ⟨v, vr, e1, h1, h2⟩ := h
    exact ⟨v, vr, e1, Rep.mono e h1, Reps.mono e h2⟩
theorem RepK.mono (e : Ex G G') : ∀ {ds : List (Key × D)} {vs : List (Key × V)}, RepK K G ds vs → RepK K G' ds vs
  | [], _, h => h
  | (k, d) :: ds, vs, h => by
    unfold RepK at h ⊢
    obtain ⟨v, vr, e1, h1, h2⟩ := h
    exact ⟨v, vr, e1, Rep.mono e h1, RepK.mono e h2⟩
theorem RepF.mono (e : Ex G G') : ∀ {ds : List (Str × D)} {vs : List (Str × V)}, RepF K G ds vs → RepF K G' ds vs
  | [], _, h => h
  | (k, d) :: ds, vs, h => by
    unfold RepF at h ⊢
    obtain ⟨v, vr, e1, h1, h2⟩ := h
    exact ⟨v, vr, e1, Rep.mono e h1, RepF.mono e h2⟩
end
theorem reps_length : ∀ {ds : List D} {vs : List V}, Reps K G ds vs → vs.length = ds.length
  | [], vs, h => by unfold Reps at h; subst h; rfl
  | d :: ds, vs, h => by
    unfold Reps at h
    obtain ⟨v, vr, e1, _, h2⟩ := h
    subst e1
    simp [reps_length h2]
theorem reps_get : ∀ {ds : List D} {vs : List V} {i : Nat} {x : D}, Reps K G ds vs → ds[i]? = some x → ∃ v, vs[i]? = some v ∧ Rep K G x v
  | [], vs, i, x, h, e => by simp at e
  | d :: ds, vs, 0, x, h, e => by
    unfold Reps at h
    obtain ⟨v, vr, e1, h1, _⟩ := h
    subst e1
    have e2 : d = x := by simpa using e
    subst e2
    exact ⟨v, rfl, h1⟩
  | d :: ds, vs, i + 1, x, h, e => by
    unfold Reps at h
    obtain ⟨v, vr, e1, _, h2⟩ := h
    subst e1
    obtain ⟨w, h3, h4⟩ := reps_get (i := i) h2 (by simpa using e)
    exact ⟨w, by simpa using h3, h4⟩
theorem reps_getV {ds : List D} {vs : List V} {i : Nat} {v : V} (h : Reps K G ds vs) (e : vs[i]? = some v) : ∃ x, ds[i]? = some x ∧ Rep K G x v := by
  have hl := reps_length h
  have hi : i < vs.length := (List.getElem?_eq_some_iff.mp e).1
  have hd : ds[i]? = some (ds[i]'(by omega)) := List.getElem?_eq_getElem (by omega)
  obtain ⟨w, h1, h2⟩ := reps_get h hd
  rw [e] at h1
  cases h1
  exact ⟨_, hd, h2⟩
theorem reps_append : ∀ {ds es : List D} {vs ws : List V}, Reps K G ds vs → Reps K G es ws → Reps K G (ds ++ es) (vs ++ ws)
  | [], es, vs, ws, h, h' => by unfold Reps at h; subst h; exact h'
  | d :: ds, es, vs, ws, h, h' => by
    unfold Reps at h
    obtain ⟨v, vr, e1, h1, h2⟩ := h
    subst e1
    show Reps K G (d :: (ds ++ es)) (v :: (vr ++ ws))
    unfold Reps
    exact ⟨v, _, rfl, h1, reps_append h2 h'⟩
theorem reps_take : ∀ {ds : List D} {vs : List V} (n : Nat), Reps K G ds vs → Reps K G (ds.take n) (vs.take n)
  | ds, vs, 0, h => by
    show Reps K G [] _
    unfold Reps
    simp
  | [], vs, n + 1, h => by unfold Reps at h; subst h; show Reps K G [] []; unfold Reps; rfl
  | d :: ds, vs, n + 1, h => by
    unfold Reps at h
    obtain ⟨v, vr, e1, h1, h2⟩ := h
    subst e1
    show Reps K G (d :: ds.take n) (v :: vr.take n)
    unfold Reps
    exact ⟨v, _, rfl, h1, reps_take n h2⟩
theorem reps_drop : ∀ {ds : List D} {vs : List V} (n : Nat), Reps K G ds vs → Reps K G (ds.drop n) (vs.drop n)
  | ds, vs, 0, h => h
  | [], vs, n + 1, h => by unfold Reps at h; subst h; show Reps K G [] []; unfold Reps; rfl
  | d :: ds, vs, n + 1, h => by
    unfold Reps at h
    obtain ⟨v, vr, e1, h1, h2⟩ := h
    subst e1
    exact reps_drop n h2
theorem reps_set : ∀ {ds : List D} {vs : List V} {x : D} {v : V} (i : Nat), Reps K G ds vs → Rep K G x v → Reps K G (ds.set i x) (vs.set i v)
  | [], vs, x, v, i, h, _ => by unfold Reps at h; subst h; show Reps K G [] []; unfold Reps; rfl
  | d :: ds, vs, x, v, 0, h, hx => by
    unfold Reps at h
    obtain ⟨w, vr, e1, h1, h2⟩ := h
    subst e1
    show Reps K G (x :: ds) (v :: vr)
    unfold Reps
    exact ⟨v, _, rfl, hx, h2⟩
  | d :: ds, vs, x, v, i + 1, h, hx => by
    unfold Reps at h
    obtain ⟨w, vr, e1, h1, h2⟩ := h
    subst e1
    show Reps K G (d :: ds.set i x) (w :: vr.set i v)
    unfold Reps
    exact ⟨w, _, rfl, h1, reps_set i h2 hx⟩
theorem reps_one {x : D} {v : V} (h : Rep K G x v) : Reps K G [x] [v] := by
  unfold Reps
  exact ⟨v, [], rfl, h, by unfold Reps; rfl⟩
theorem reps_nil : Reps K G [] [] := by unfold Reps; rfl
theorem reps_cons {x : D} {v : V} {ds : List D} {vs : List V} (h : Rep K G x v) (h' : Reps K G ds vs) : Reps K G (x :: ds) (v :: vs) := by
  unfold Reps
  exact ⟨v, vs, rfl, h, h'⟩
theorem reps_rev : ∀ {ds : List D} {vs : List V}, Reps K G ds vs → Reps K G ds.reverse vs.reverse
  | [], vs, h => by unfold Reps at h; subst h; exact reps_nil
  | d :: ds, vs, h => by
    unfold Reps at h
    obtain ⟨w, vr, e1, h1, h2⟩ := h
    subst e1
    rw [List.reverse_cons, List.reverse_cons]
    exact reps_append (reps_rev h2) (reps_one h1)
end

/-! ### slots -/
inductive Sl where
  | no | d (x : D) | own (a : Addr) (x : D)
/-- what an expression hands on: data, a new object of one's own, a slot's own object -/
inductive R where
  | d (x : D) | own (a : Addr) (x : D) | bor (i : Nat) (a : Addr)
def owned : List Sl → List Addr
  | [] => []
  | .own a _ :: r => a :: owned r
  | _ :: r => owned r
def OwnR (K : PySem.W.Frag) (G H : Hp) (a : Addr) : D → Prop
  | .lst ds => ∃ xs, H a = some (.lst xs) ∧ Reps K G ds xs
  | .dct ds => ∃ xs, H a = some (.dK xs) ∧ RepK K G ds xs
  | .obj C fs => ∃ dx xs, H a = some (.ins C dx xs) ∧ RepF K G fs xs
  | _ => False
def SlR (K : PySem.W.Frag) (G H : Hp) : Sl → Option V → Prop
  | .no, _ => True
  | .d x, ov => ∃ v, ov = some v ∧ Rep K G x v
  | .own a x, ov => ov = some (.ref a) ∧ OwnR K G H a x
def SlsR (K : PySem.W.Frag) (G H : Hp) : List Sl → St → Prop
  | [], σ => σ = []
  | s :: δ, σ => ∃ ov σr, σ = ov :: σr ∧ SlR K G H s ov ∧ SlsR K G H δ σr
structure Frame (K : PySem.W.Frag) (B G H : Hp) (σ : St) (δ : List Sl) : Prop where
  exB : Ex B H
  exG : Ex G H
  dis : ∀ b, B b = none ∨ G b = none
  sl : SlsR K G H δ σ
  own : ∀ a ∈ owned δ, B a = none ∧ G a = none
  nd : (owned δ).Nodup
def RV (K : PySem.W.Frag) (B G H : Hp) (δ : List Sl) : R → V → Prop
  | .d x, v => Rep K G x v
  | .own a x, v => v = .ref a ∧ OwnR K G H a x ∧ B a = none ∧ G a = none ∧ a ∉ owned δ
  | .bor i a, v => v = .ref a ∧ ∃ x, δ[i]? = some (.own a x)
/-- the data that stands behind a thing -/
def view (δ : List Sl) : R → Option D
  | .d x => some x
  | .own _ x => some x
  | .bor i a => match δ[i]? with
    | some (.own b x) => if a = b then some x else none
    | _ => none

section
variable {K : PySem.W.Frag} {B G G' H H' : Hp} {σ : St} {δ : List Sl}
theorem OwnR.mono {a : Addr} {x : D} (eG : Ex G G') (h : OwnR K G H a x) (hH : H' a = H a) : OwnR K G' H' a x := by
  cases x with
  | lst ds => obtain ⟨xs, h1, h2⟩ := h; exact ⟨xs, hH.trans h1, h2.mono eG⟩
  | dct ds => obtain ⟨xs, h1, h2⟩ := h; exact ⟨xs, hH.trans h1, h2.mono eG⟩
  | obj C ds => obtain ⟨dx, xs, h1, h2⟩ := h; exact ⟨dx, xs, hH.trans h1, h2.mono eG⟩
  | _ => exact h.elim
theorem OwnR.there {a : Addr} {x : D} (h : OwnR K G H a x) : ∃ o, H a = some o := by
  cases x with
  | lst ds => obtain ⟨xs, h1, h2⟩ := h; exact ⟨_, h1⟩
  | dct ds => obtain ⟨xs, h1, h2⟩ := h; exact ⟨_, h1⟩
  | obj C ds => obtain ⟨dx, xs, h1, h2⟩ := h; exact ⟨_, h1⟩
  | _ => exact h.elim
theorem OwnR.ex {a : Addr} {x : D} (eG : Ex G G') (eH : Ex H H') (h : OwnR K G H a x) : OwnR K G' H' a x := by
  obtain ⟨o, ho⟩ := h.there
  exact h.mono eG ((eH _ _ ho).trans ho.symm)
theorem SlR.ex {s : Sl} {ov : Option V} (eG : Ex G G') (eH : ∀ a x, s = .own a x → H' a = H a) (h : SlR K G H s ov) : SlR K G' H' s ov := by
  cases s with
  | no => trivial
  | d x => obtain ⟨v, e, r⟩ := h; exact ⟨v, e, r.mono eG⟩
  | own a x => obtain ⟨e, r⟩ := h; exact ⟨e, r.mono eG (eH a x rfl)⟩
theorem SlsR.ex : ∀ {δ : List Sl} {σ : St}, Ex G G' → (∀ a ∈ owned δ, H' a = H a) → SlsR K G H δ σ → SlsR K G' H' δ σ
  | [], σ, _, _, h => h
  | s :: δ, σ, eG, eH, h => by
    obtain ⟨ov, σr, e, h1, h2⟩ := h
    refine ⟨ov, σr, e, h1.ex eG fun a x es => eH a (by subst es; exact List.mem_cons_self), SlsR.ex eG (fun a ha => eH a ?_) h2⟩
    cases s with
    | no => exact ha
    | d x => exact ha
    | own b x => exact List.mem_cons_of_mem _ ha
theorem SlsR.len : ∀ {δ : List Sl} {σ : St}, SlsR K G H δ σ → σ.length = δ.length
  | [], σ, h => by
    have e : σ = [] := h
    subst e
    rfl
  | s :: δ, σ, h => by
    obtain ⟨ov, σr, e, h1, h2⟩ := h
    subst e
    simp [SlsR.len h2]
theorem SlsR.get : ∀ {δ : List Sl} {σ : St} {i : Nat} {s : Sl}, SlsR K G H δ σ → δ[i]? = some s → ∃ ov, σ[i]? = some ov ∧ SlR K G H s ov
  | [], σ, i, s, h, e => by simp at e
  | t :: δ, σ, 0, s, h, e => by
    obtain ⟨ov, σr, e1, h1, h2⟩ := h
    subst e1
    have e2 : t = s := by simpa using e
    subst e2
    exact ⟨ov, rfl, h1⟩
  | t :: δ, σ, i + 1, s, h, e => by
    obtain ⟨ov, σr, e1, h1, h2⟩ := h
    subst e1
    obtain ⟨w, h3, h4⟩ := SlsR.get (i := i) h2 (by simpa using e)
    exact ⟨w, by simpa using h3, h4⟩
theorem SlsR.set : ∀ {δ : List Sl} {σ : St} {s : Sl} {ov : Option V} (i : Nat), SlsR K G H δ σ → SlR K G H s ov → SlsR K G H (δ.set i s) (σ.set i ov)
  | [], σ, s, ov, i, h, _ => by
    have e : σ = [] := h
    subst e
    exact (rfl : ([] : St) = [])
  | t :: δ, σ, s, ov, 0, h, hs => by
    obtain ⟨w, σr, e1, h1, h2⟩ := h
    subst e1
    exact ⟨ov, σr, rfl, hs, h2⟩
  | t :: δ, σ, s, ov, i + 1, h, hs => by
    obtain ⟨w, σr, e1, h1, h2⟩ := h
    subst e1
    exact ⟨w, _, rfl, h1, SlsR.set i h2 hs⟩
/-- a slot's word alone is changed -/
theorem SlsR.setS : ∀ {δ : List Sl} {σ : St} {s : Sl} {ov : Option V} (i : Nat), SlsR K G H δ σ → (∀ ov, σ[i]? = some ov → SlR K G H s ov) → SlsR K G H (δ.set i s) σ
  | [], σ, s, ov, i, h, _ => h
  | t :: δ, σ, s, ov, 0, h, hs => by
    obtain ⟨w, σr, e1, h1, h2⟩ := h
    subst e1
    exact ⟨w, σr, rfl, hs w rfl, h2⟩
  | t :: δ, σ, s, ov, i + 1, h, hs => by
    obtain ⟨w, σr, e1, h1, h2⟩ := h
    subst e1
    exact ⟨w, _, rfl, h1, SlsR.setS (ov := ov) i h2 fun ov e => hs ov (by simpa using e)⟩
theorem owned_get : ∀ {δ : List Sl} {i : Nat} {a : Addr} {x : D}, δ[i]? = some (.own a x) → a ∈ owned δ
  | [], i, a, x, e => by simp at e
  | s :: δ, 0, a, x, e => by
    have e2 : s = .own a x := by simpa using e
    subst e2
    exact List.mem_cons_self
  | s :: δ, i + 1, a, x, e => by
    have h := owned_get (δ := δ) (i := i) (by simpa using e)
    cases s with
    | no => exact h
    | d x => exact h
    | own b x => exact List.mem_cons_of_mem _ h
theorem owned_set_no : ∀ {δ : List Sl} {i : Nat} {s : Sl}, (∀ a x, s ≠ .own a x) → (owned (δ.set i s)).Sublist (owned δ)
  | [], i, s, _ => List.Sublist.refl _
  | t :: δ, 0, s, h => by
    have e : owned ((t :: δ).set 0 s) = owned δ := by
      cases s with
      | no => rfl
      | d x => rfl
      | own a x => exact absurd rfl (h a x)
    rw [e]
    cases t with
    | no => exact List.Sublist.refl _
    | d x => exact List.Sublist.refl _
    | own b x => exact List.sublist_cons_self _ _
  | t :: δ, i + 1, s, h => by
    have ih := owned_set_no (δ := δ) (i := i) (s := s) h
    cases t with
    | no => exact ih
    | d x => exact ih
    | own b x => exact ih.cons_cons b
theorem owned_set_own : ∀ {δ : List Sl} {i : Nat} {a b : Addr} {x : D}, b ∈ owned (δ.set i (.own a x)) → b = a ∨ b ∈ owned δ
  | [], i, a, b, x, h => .inr h
  | t :: δ, 0, a, b, x, h => by
    have h' : b ∈ a :: owned δ := h
    rcases List.mem_cons.mp h' with e | e
    · exact .inl e
    · refine .inr ?_
      cases t with
      | no => exact e
      | d x => exact e
      | own c y => exact List.mem_cons_of_mem _ e
  | t :: δ, i + 1, a, b, x, h => by
    cases t with
    | no => exact owned_set_own (δ := δ) (i := i) (show b ∈ owned (δ.set i (.own a x)) from h)
    | d y => exact owned_set_own (δ := δ) (i := i) (show b ∈ owned (δ.set i (.own a x)) from h)
    | own c y =>
      have h' : b ∈ c :: owned (δ.set i (.own a x)) := h
      rcases List.mem_cons.mp h' with e | e
      · exact .inr (by rw [e]; exact List.mem_cons_self)
      · rcases owned_set_own (δ := δ) (i := i) e with e | e
        · exact .inl e
        · exact .inr (List.mem_cons_of_mem _ e)
theorem nodup_set_own : ∀ {δ : List Sl} {i : Nat} {a : Addr} {x : D}, (owned δ).Nodup → a ∉ owned δ → (owned (δ.set i (.own a x))).Nodup
  | [], i, a, x, h, _ => h
  | t :: δ, 0, a, x, h, hn => by
    show (a :: owned δ).Nodup
    cases t with
    | no => exact List.nodup_cons.mpr ⟨hn, h⟩
    | d y => exact List.nodup_cons.mpr ⟨hn, h⟩
    | own c y => exact List.nodup_cons.mpr ⟨fun z => hn (List.mem_cons_of_mem _ z), (List.nodup_cons.mp h).2⟩
  | t :: δ, i + 1, a, x, h, hn => by
    cases t with
    | no => exact nodup_set_own (δ := δ) (i := i) h hn
    | d y => exact nodup_set_own (δ := δ) (i := i) h hn
    | own c y =>
      have hn' : a ∉ owned δ := fun z => hn (List.mem_cons_of_mem _ z)
      have hc : a ≠ c := fun z => hn (by rw [z]; exact List.mem_cons_self)
      have h' := List.nodup_cons.mp h
      show (c :: owned (δ.set i (.own a x))).Nodup
      refine List.nodup_cons.mpr ⟨fun z => ?_, nodup_set_own (δ := δ) (i := i) h'.2 hn'⟩
      rcases owned_set_own z with e | e
      · exact hc e.symm
      · exact h'.1 e
/-- the owned of a list where an owned object's content alone is told otherwise -/
theorem owned_set_same : ∀ {δ : List Sl} {i : Nat} {a : Addr} {x y : D}, δ[i]? = some (.own a x) → owned (δ.set i (.own a y)) = owned δ
  | [], i, a, x, y, h => by simp at h
  | t :: δ, 0, a, x, y, h => by
    have e2 : t = .own a x := by simpa using h
    subst e2
    rfl
  | t :: δ, i + 1, a, x, y, h => by
    have ih := owned_set_same (δ := δ) (i := i) (a := a) (x := x) (y := y) (by simpa using h)
    cases t with
    | no => exact ih
    | d y => exact ih
    | own c z =>
      show c :: owned (δ.set i (.own a y)) = c :: owned δ
      rw [ih]
theorem owned_append : ∀ {δ ε : List Sl}, owned (δ ++ ε) = owned δ ++ owned ε
  | [], ε => rfl
  | s :: δ, ε => by
    have ih := owned_append (δ := δ) (ε := ε)
    cases s with
    | no => exact ih
    | d x => exact ih
    | own a x =>
      show a :: owned (δ ++ ε) = a :: owned δ ++ owned ε
      rw [ih]
      rfl
theorem owned_no (n : Nat) : owned (List.replicate n .no) = [] := by
  induction n with
  | zero => rfl
  | succ n ih => exact ih
theorem SlsR.append : ∀ {δ ε : List Sl} {σ τ : St}, SlsR K G H δ σ → SlsR K G H ε τ → SlsR K G H (δ ++ ε) (σ ++ τ)
  | [], ε, σ, τ, h, h' => by
    have e : σ = [] := h
    subst e
    exact h'
  | s :: δ, ε, σ, τ, h, h' => by
    obtain ⟨ov, σr, e, h1, h2⟩ := h
    subst e
    exact ⟨ov, _, rfl, h1, SlsR.append h2 h'⟩
theorem SlsR.nos : ∀ (σ : St), SlsR K G H (List.replicate σ.length .no) σ
  | [] => rfl
  | ov :: σ => ⟨ov, σ, rfl, trivial, SlsR.nos σ⟩
/-! Frame's turns -/
theorem Frame.ex (F : Frame K B G H σ δ) (e : Ex H H') : Frame K B G H' σ δ := by
  refine ⟨F.exB.trans e, F.exG.trans e, F.dis, F.sl.ex (Ex.refl G) (fun a ha => ?_), F.own, F.nd⟩
  have h := F.sl
  -- an owned object is there
  have there : ∀ {δ : List Sl} {σ : St}, SlsR K G H δ σ → a ∈ owned δ → ∃ o, H a = some o := by
    intro δ
    induction δ with
    | nil => intro σ _ z; cases z
    | cons s δ ih =>
      intro σ h z
      obtain ⟨ov, σr, e, h1, h2⟩ := h
      cases s with
      | no => exact ih h2 z
      | d x => exact ih h2 z
      | own b x =>
        have z' : a ∈ b :: owned δ := z
        rcases List.mem_cons.mp z' with q | q
        · subst q; exact h1.2.there
        · exact ih h2 q
  obtain ⟨o, ho⟩ := there h ha
  exact (e _ _ ho).trans ho.symm
theorem Frame.there (F : Frame K B G H σ δ) {a : Addr} (ha : a ∈ owned δ) : ∃ o, H a = some o := by
  have there : ∀ {δ : List Sl} {σ : St}, SlsR K G H δ σ → a ∈ owned δ → ∃ o, H a = some o := by
    intro δ
    induction δ with
    | nil => intro σ _ z; cases z
    | cons s δ ih =>
      intro σ h z
      obtain ⟨ov, σr, e, h1, h2⟩ := h
      cases s with
      | no => exact ih h2 z
      | d x => exact ih h2 z
      | own b x =>
        have z' : a ∈ b :: owned δ := z
        rcases List.mem_cons.mp z' with q | q
        · subst q; exact h1.2.there
        · exact ih h2 q
  exact there F.sl ha
/-- frozen things more -/
theorem Frame.more (F : Frame K B G H σ δ) (eG : Ex G G') (eH : Ex G' H) (dis : ∀ b, B b = none ∨ G' b = none) (hn : ∀ a ∈ owned δ, G' a = none) : Frame K B G' H σ δ :=
  ⟨F.exB, eH, dis, F.sl.ex eG (fun _ _ => rfl), fun a ha => ⟨(F.own a ha).1, hn a ha⟩, F.nd⟩
/-- a new frozen object p -/
theorem Frame.fresh (F : Frame K B G H σ δ) {p : Addr} (hp : H p = none) : B p = none ∧ G p = none ∧ p ∉ owned δ := by
  refine ⟨Evl.fresh_back F.exB hp, Evl.fresh_back F.exG hp, fun z => ?_⟩
  obtain ⟨o, ho⟩ := F.there z
  rw [ho] at hp
  cases hp
theorem Frame.laid (F : Frame K B G H σ δ) {p : Addr} {o : HO} (hp : H p = none) : Frame K B (upd G p o) (upd H p o) σ δ := by
  obtain ⟨h1, h2, h3⟩ := F.fresh hp
  refine (F.ex (Ex.new hp)).more (Ex.new h2) (fun a u e => ?_) (fun b => ?_) (fun a ha => ?_)
  · by_cases hb : a = p
    · subst hb; rw [upd_same] at e ⊢; exact e
    · rw [upd_ne hb] at e ⊢; exact F.exG _ _ e
  · by_cases hb : b = p
    · subst hb; exact .inl h1
    · rw [upd_ne hb]; exact F.dis b
  · rw [upd_ne (fun z => h3 (by rw [← z]; exact ha))]
    exact (F.own a ha).2
/-- an object of one's own is told as frozen -/
theorem Frame.freeze (F : Frame K B G H σ δ) {a : Addr} {o : HO} (ha : H a = some o) (hB : B a = none) (hG : G a = none) (hn : a ∉ owned δ) : Frame K B (upd G a o) H σ δ := by
  refine F.more (Ex.new hG) (fun b u e => ?_) (fun b => ?_) (fun b hb => ?_)
  · by_cases q : b = a
    · subst q; rw [upd_same] at e; rw [ha]; exact e
    · rw [upd_ne q] at e; exact F.exG _ _ e
  · by_cases q : b = a
    · subst q; exact .inl hB
    · rw [upd_ne q]; exact F.dis b
  · rw [upd_ne (fun z => hn (by rw [← z]; exact hb))]
    exact (F.own b hb).2
theorem OwnR.rep {a : Addr} {x : D} {o : HO} (h : OwnR K G H a x) (ho : H a = some o) (hG : G a = none) : Rep K (upd G a o) x (.ref a) := by
  cases x with
  | lst ds =>
    obtain ⟨xs, h1, h2⟩ := h
    rw [ho] at h1
    cases h1
    unfold Rep
    exact ⟨a, xs, rfl, Rd.of upd_same, h2.mono (Ex.new hG)⟩
  | dct ds =>
    obtain ⟨xs, h1, h2⟩ := h
    rw [ho] at h1
    cases h1
    unfold Rep
    exact ⟨a, xs, rfl, Rd.of upd_same, h2.mono (Ex.new hG)⟩
  | obj C ds =>
    obtain ⟨dx, xs, h1, h2⟩ := h
    rw [ho] at h1
    cases h1
    unfold Rep
    exact ⟨a, dx, xs, rfl, upd_same, h2.mono (Ex.new hG)⟩
  | _ => exact h.elim
/-- what is told of a thing's content: at H, its items frozen in G -/
theorem OwnR.repH {a : Addr} {x : D} (eG : Ex G H) (h : OwnR K G H a x) : Rep K H x (.ref a) := by
  cases x with
  | lst ds =>
    obtain ⟨xs, h1, h2⟩ := h
    unfold Rep
    exact ⟨a, xs, rfl, Rd.of h1, h2.mono eG⟩
  | dct ds =>
    obtain ⟨xs, h1, h2⟩ := h
    unfold Rep
    exact ⟨a, xs, rfl, Rd.of h1, h2.mono eG⟩
  | obj C ds =>
    obtain ⟨dx, xs, h1, h2⟩ := h
    unfold Rep
    exact ⟨a, dx, xs, rfl, h1, h2.mono eG⟩
  | _ => exact h.elim
theorem Frame.get (F : Frame K B G H σ δ) {i : Nat} {s : Sl} (e : δ[i]? = some s) : ∃ ov, σ[i]? = some ov ∧ SlR K G H s ov := F.sl.get e
theorem view_bor {i : Nat} {a : Addr} {y : D} (h : δ[i]? = some (.own a y)) : view δ (.bor i a) = some y := by simp [view, h]
theorem view_bor' {i : Nat} {a : Addr} {y : D} (h : view δ (.bor i a) = some y) : δ[i]? = some (.own a y) := by
  unfold view at h
  simp only at h
  split at h
  · rename_i b x e
    split at h
    · rename_i q
      subst q
      rw [e]
      cases h
      rfl
    · cases h
  · cases h
/-- a thing as an operand: a new object is frozen -/
def frz : R → R
  | .own _ x => .d x
  | r => r
def RW (K : PySem.W.Frag) (G : Hp) : R → V → Prop
  | .d x, v => Rep K G x v
  | .own _ _, _ => False
  | .bor _ a, v => v = .ref a
theorem RW.mono {r : R} {v : V} (e : Ex G G') (h : RW K G r v) : RW K G' r v := by
  cases r with
  | d x => exact Rep.mono e h
  | own a x => exact h
  | bor i a => exact h
theorem view_repH (F : Frame K B G H σ δ) {r : R} {v : V} {x : D} (h : RW K G r v) (e : view δ r = some x) : Rep K H x v := by
  cases r with
  | d y =>
    have e' : y = x := Option.some.inj e
    subst e'
    exact Rep.mono F.exG h
  | own a y => exact h.elim
  | bor i a =>
    have e1 : v = .ref a := h
    subst e1
    obtain ⟨ov, _, _, h3⟩ := F.get (view_bor' e)
    exact h3.repH F.exG
/-- a list (tuple) that is read: its items are frozen -/
theorem view_lst (F : Frame K B G H σ δ) {r : R} {v : V} {ds : List D} (h : RW K G r v) (e : view δ r = some (.lst ds)) : ∃ a xs, v = .ref a ∧ Rd H a (.lst xs) ∧ Reps K G ds xs := by
  cases r with
  | d y =>
    have e' : y = .lst ds := Option.some.inj e
    subst e'
    have h' : Rep K G (.lst ds) v := h
    unfold Rep at h'
    obtain ⟨a, xs, e1, h1, h2⟩ := h'
    exact ⟨a, xs, e1, Evl.ex_rd F.exG h1, h2⟩
  | own a y => exact h.elim
  | bor i a =>
    have e1 : v = .ref a := h
    obtain ⟨ov, _, _, xs, h3, h4⟩ := F.get (view_bor' e)
    exact ⟨a, xs, e1, Rd.of h3, h4⟩
theorem view_ro (F : Frame K B G H σ δ) {r : R} {v : V} {ds : List D} (h : RW K G r v) (e : view δ r = some (.ro ds)) : ∃ a xs, v = .ref a ∧ SqL K H a xs ∧ Reps K G ds xs := by
  cases r with
  | d y =>
    have e' : y = .ro ds := Option.some.inj e
    subst e'
    have h' : Rep K G (.ro ds) v := h
    unfold Rep at h'
    obtain ⟨a, xs, e1, h1, h2⟩ := h'
    exact ⟨a, xs, e1, Evl.ex_l F.exG h1, h2⟩
  | own a y => exact h.elim
  | bor i a =>
    obtain ⟨ov, _, _, h3⟩ := F.get (view_bor' e)
    exact h3.elim
theorem view_tup (F : Frame K B G H σ δ) {r : R} {v : V} {ds : List D} (h : RW K G r v) (e : view δ r = some (.tup ds)) : ∃ a xs, v = .ref a ∧ SqT K H a xs ∧ Reps K G ds xs := by
  cases r with
  | d y =>
    have e' : y = .tup ds := Option.some.inj e
    subst e'
    have h' : Rep K G (.tup ds) v := h
    unfold Rep at h'
    obtain ⟨a, xs, e1, h1, h2⟩ := h'
    exact ⟨a, xs, e1, Evl.ex_t F.exG h1, h2⟩
  | own a y => exact h.elim
  | bor i a =>
    obtain ⟨ov, _, _, h3⟩ := F.get (view_bor' e)
    exact h3.elim
theorem view_dct (F : Frame K B G H σ δ) {r : R} {v : V} {ds : List (Key × D)} (h : RW K G r v) (e : view δ r = some (.dct ds)) : ∃ a xs, v = .ref a ∧ Rd H a (.dK xs) ∧ RepK K G ds xs := by
  cases r with
  | d y =>
    have e' : y = .dct ds := Option.some.inj e
    subst e'
    have h' : Rep K G (.dct ds) v := h
    unfold Rep at h'
    obtain ⟨a, xs, e1, h1, h2⟩ := h'
    exact ⟨a, xs, e1, Evl.ex_rd F.exG h1, h2⟩
  | own a y => exact h.elim
  | bor i a =>
    have e1 : v = .ref a := h
    obtain ⟨ov, _, _, xs, h3, h4⟩ := F.get (view_bor' e)
    exact ⟨a, xs, e1, Rd.of h3, h4⟩
theorem RV.weak (F : Frame K B G H σ δ) {r : R} {v : V} (h : RV K B G H δ r v) : ∃ G1, Ex G G1 ∧ Frame K B G1 H σ δ ∧ RW K G1 (frz r) v := by
  cases r with
  | d x => exact ⟨G, Ex.refl G, F, h⟩
  | own a x =>
    obtain ⟨e1, h1, h2, h3, h4⟩ := h
    subst e1
    obtain ⟨o, ho⟩ := h1.there
    exact ⟨upd G a o, Ex.new h3, F.freeze ho h2 h3 h4, h1.rep ho h3⟩
  | bor i a => exact ⟨G, Ex.refl G, F, h.1⟩
theorem RV.ex {r : R} {v : V} (h : RV K B G H δ r v) (eG : Ex G G') (eH : Ex H H') (hn : ∀ a x, r = .own a x → G' a = none) : RV K B G' H' δ r v := by
  cases r with
  | d x => exact Rep.mono eG h
  | own a x =>
    obtain ⟨e1, h1, h2, h3, h4⟩ := h
    exact ⟨e1, h1.ex eG eH, h2, hn a x rfl, h4⟩
  | bor i a => exact h
end

/-! ### the words -/
/-- where one stands: the written part, and what an error's way out asks -/
structure Cd where
  K : PySem.W.Frag
  xr : Hp → Hp → Prop
  mono : ∀ B G G', Ex G G' → xr B G → xr B G'
abbrev c0 (K : PySem.W.Frag) : Cd := ⟨K, fun _ _ => True, fun _ _ _ _ h => h⟩
/-- an expression, from slots δ: Φ of what it hands on and the slots behind; p: nothing that stood is changed -/
def WE (c : Cd) (p : Bool) (te : TE) (δ : List Sl) (Φ : R → List Sl → Prop) : Prop :=
  ∀ (B G H : Hp) (σ : St) (Q : VK), Frame c.K B G H σ δ → c.xr B G →
    (∀ r δ' v G' H', Φ r δ' → Ex G G' → Frame c.K B G' H' σ δ' → RV c.K B G' H' δ' r v → (p = true → δ' = δ ∧ Ex H H') → Q v H') → te σ H Q
def WT (c : Cd) (p : Bool) (tt : TT) (δ : List Sl) (Φ : Bool → List Sl → Prop) : Prop :=
  ∀ (B G H : Hp) (σ : St) (Q : Bool → Hp → Prop), Frame c.K B G H σ δ → c.xr B G →
    (∀ b δ' G' H', Φ b δ' → Ex G G' → Frame c.K B G' H' σ δ' → (p = true → δ' = δ ∧ Ex H H') → Q b H') → tt σ H Q
/-- arguments: each thing data (bor: a slot's own, lent) -/
def RVs (K : PySem.W.Frag) (G : Hp) : List R → List V → Prop
  | [], vs => vs = []
  | r :: rs, vs => ∃ v vr, vs = v :: vr ∧ RW K G r v ∧ RVs K G rs vr
theorem RVs.mono {K : PySem.W.Frag} {G G' : Hp} (e : Ex G G') : ∀ {rs : List R} {vs : List V}, RVs K G rs vs → RVs K G' rs vs
  | [], _, h => h
  | r :: rs, _, h => by
    obtain ⟨v, vr, e1, h1, h2⟩ := h
    exact ⟨v, vr, e1, h1.mono e, RVs.mono e h2⟩
def WA (c : Cd) (p : Bool) (ta : TA) (δ : List Sl) (Φ : List R → List Sl → Prop) : Prop :=
  ∀ (B G H : Hp) (σ : St) (Q : List V → Hp → Prop), Frame c.K B G H σ δ → c.xr B G →
    (∀ rs δ' vs G' H', Φ rs δ' → Ex G G' → Frame c.K B G' H' σ δ' → RVs c.K G' rs vs → (p = true → δ' = δ ∧ Ex H H') → Q vs H') → ta σ H Q
structure En where
  nx : List Sl → Prop
  rt : R → List Sl → Prop
  bk : List Sl → Prop := fun _ => False
  ct : List Sl → Prop := fun _ => False
structure EnR (c : Cd) (B G : Hp) (E : En) (D : Ends) : Prop where
  nx : ∀ δ' σ' G' H', E.nx δ' → Ex G G' → Frame c.K B G' H' σ' δ' → D.nx σ' H'
  rt : ∀ r δ' v σ' G' H', E.rt r δ' → Ex G G' → Frame c.K B G' H' σ' δ' → RV c.K B G' H' δ' r v → D.rt v H'
  bk : ∀ δ' σ' G' H', E.bk δ' → Ex G G' → Frame c.K B G' H' σ' δ' → D.bk σ' H'
  ct : ∀ δ' σ' G' H', E.ct δ' → Ex G G' → Frame c.K B G' H' σ' δ' → D.ct σ' H'
theorem EnR.mono {c : Cd} {B G G1 : Hp} {E : En} {D : Ends} (h : EnR c B G E D) (e : Ex G G1) : EnR c B G1 E D :=
  ⟨fun δ' σ' G' H' a b => h.nx δ' σ' G' H' a (e.trans b), fun r δ' v σ' G' H' a b => h.rt r δ' v σ' G' H' a (e.trans b), fun δ' σ' G' H' a b => h.bk δ' σ' G' H' a (e.trans b), fun δ' σ' G' H' a b => h.ct δ' σ' G' H' a (e.trans b)⟩
def WS (c : Cd) (t : TS) (δ : List Sl) (E : En) : Prop :=
  ∀ (B G H : Hp) (σ : St) (D : Ends), Frame c.K B G H σ δ → c.xr B G → EnR c B G E D → t D σ H
/-- a target, handed a thing -/
def WG (c : Cd) (g : TG) (r : R) (δ : List Sl) (Φ : List Sl → Prop) : Prop :=
  ∀ (B G H : Hp) (σ : St) (v : V) (Q : St → Hp → Prop), Frame c.K B G H σ δ → c.xr B G → RV c.K B G H δ r v →
    (∀ δ' σ' G' H', Φ δ' → Ex G G' → Frame c.K B G' H' σ' δ' → Q σ' H') → g v σ H Q
end DL

/-! DL1: the rules of the words. -/
namespace DL
open PySem PySem.Spec PyProof.Rows L2
open Evl (Ex)
section
variable {c : Cd} {p : Bool} {δ : List Sl} {te ta tb : TE} {Φ Φ' : R → List Sl → Prop}
/-! ### values -/
theorem we_mono (h : WE c p te δ Φ) (m : ∀ r δ', Φ r δ' → Φ' r δ') : WE c p te δ Φ' := fun B G H σ Q F x k =>
  h B G H σ Q F x fun r δ' v G' H' w => k r δ' v G' H' (m r δ' w)
theorem wt_mono {tt : TT} {Φ Φ' : Bool → List Sl → Prop} (h : WT c p tt δ Φ) (m : ∀ r δ', Φ r δ' → Φ' r δ') : WT c p tt δ Φ' := fun B G H σ Q F x k =>
  h B G H σ Q F x fun r δ' G' H' w => k r δ' G' H' (m r δ' w)
theorem ws_mono {t : TS} {E E' : En} (h : WS c t δ E) (m1 : ∀ δ', E.nx δ' → E'.nx δ') (m2 : ∀ r δ', E.rt r δ' → E'.rt r δ') (m3 : ∀ δ', E.bk δ' → E'.bk δ') (m4 : ∀ δ', E.ct δ' → E'.ct δ') : WS c t δ E' := fun B G H σ D F x e =>
  h B G H σ D F x ⟨fun δ' σ' G' H' w => e.nx δ' σ' G' H' (m1 _ w), fun r δ' v σ' G' H' w => e.rt r δ' v σ' G' H' (m2 _ _ w), fun δ' σ' G' H' w => e.bk δ' σ' G' H' (m3 _ w), fun δ' σ' G' H' w => e.ct δ' σ' G' H' (m4 _ w)⟩
/-- what a slot hands on -/
def rd (δ : List Sl) (i : Nat) : Option R := match δ[i]? with
  | some (.d x) => some (.d x)
  | some (.own a _) => some (.bor i a)
  | _ => none
theorem we_var {i : Nat} {r : R} (h : rd δ i = some r) (q : Φ r δ) : WE c p (tVar i) δ Φ := by
  intro B G H σ Q F x k
  unfold rd at h
  split at h
  · rename_i y e
    obtain ⟨ov, e1, v, e2, hr⟩ := F.get e
    subst e2
    cases h
    exact ⟨v, e1, k _ δ v G H q (Ex.refl G) F hr fun _ => ⟨rfl, Ex.refl H⟩⟩
  · rename_i a y e
    obtain ⟨ov, e1, e2, hr⟩ := F.get e
    subst e2
    cases h
    exact ⟨.ref a, e1, k _ δ _ G H q (Ex.refl G) F ⟨rfl, y, e⟩ fun _ => ⟨rfl, Ex.refl H⟩⟩
  · cases h
def dOf : V → D
  | .bl b => .bl b
  | .int i => .int i
  | .str x => .str x
  | .ty n => .ty n
  | .ref a => .ptr a
  | _ => .non
def isC : V → Bool
  | .byt _ => false
  | .flt _ => false
  | _ => true
theorem rep_dOf {K : PySem.W.Frag} {G : Hp} {v : V} (h : isC v = true) : Rep K G (dOf v) v := by
  cases v <;> first | (cases h; done) | (unfold dOf Rep; rfl)
theorem rep_bl {K : PySem.W.Frag} {G : Hp} {b : Bool} : Rep K G (.bl b) (.bl b) := by unfold Rep; rfl
theorem rep_int {K : PySem.W.Frag} {G : Hp} {b : Int} : Rep K G (.int b) (.int b) := by unfold Rep; rfl
theorem rep_str {K : PySem.W.Frag} {G : Hp} {b : Str} : Rep K G (.str b) (.str b) := by unfold Rep; rfl
theorem rep_non {K : PySem.W.Frag} {G : Hp} : Rep K G .non .non := by unfold Rep; rfl
theorem rv_bl {K : PySem.W.Frag} {B G H : Hp} {δ : List Sl} {b : Bool} : RV K B G H δ (.d (.bl b)) (.bl b) := rep_bl (K := K) (G := G)
theorem we_c {v : V} (q : Φ (.d (dOf v)) δ) (h : isC v = true := by rfl) : WE c p (tC v) δ Φ := fun B G H σ Q F x k =>
  k _ δ v G H q (Ex.refl G) F (rep_dOf h) fun _ => ⟨rfl, Ex.refl H⟩
/-- a thing of the written part -/
theorem we_k {v : V} {x : D} (h : ∀ G, Rep c.K G x v) (q : Φ (.d x) δ) : WE c p (tC v) δ Φ := fun B G H σ Q F z k =>
  k _ δ v G H q (Ex.refl G) F (h G) fun _ => ⟨rfl, Ex.refl H⟩
/-! ### operators -/
abbrev Dop := D → D → (R → Prop) → Prop
/-- what an operation does, by data -/
def OpD (c : Cd) (r : R2) (f : Dop) : Prop := ∀ (B G H : Hp) (σ : St) (δ : List Sl) (r1 r2 : R) (v1 v2 : V) (x y : D) (Ψ : R → Prop) (Q : VK), Frame c.K B G H σ δ → RW c.K G r1 v1 → RW c.K G r2 v2 → view δ r1 = some x → view δ r2 = some y → f x y Ψ →
  (∀ r v G' H', Ψ r → Ex G G' → Ex H H' → Frame c.K B G' H' σ δ → RV c.K B G' H' δ r v → Q v H') → r v1 v2 H Q
theorem we_op {r : R2} {f : Dop} (ho : OpD c r f) (h : WE c p ta δ fun r1 δ1 => WE c p tb δ1 fun r2 δ2 => ∃ x y, view δ2 (frz r1) = some x ∧ view δ2 (frz r2) = some y ∧ f x y fun r => Φ r δ2) : WE c p (tOp r ta tb) δ Φ := by
  intro B G H σ Q F x k
  refine h B G H σ _ F x fun r1 δ1 v1 G1 H1 w1 e1 F1 rv1 p1 => ?_
  obtain ⟨G1', e1', F1', rw1⟩ := rv1.weak F1
  refine w1 B G1' H1 σ _ F1' (c.mono _ _ _ (e1.trans e1') x) fun r2 δ2 v2 G2 H2 w2 e2 F2 rv2 p2 => ?_
  obtain ⟨G2', e2', F2', rw2⟩ := rv2.weak F2
  obtain ⟨x, y, hx, hy, hd⟩ := w2
  refine ho B G2' H2 σ δ2 _ _ v1 v2 x y _ _ F2' (rw1.mono (e2.trans e2')) rw2 hx hy hd fun r v G' H' q e3 e4 F3 rv3 => ?_
  exact k r δ2 v G' H' q ((e1.trans e1').trans ((e2.trans e2').trans e3)) F3 rv3 fun hp => ⟨(p2 hp).1.trans (p1 hp).1, ((p1 hp).2.trans (p2 hp).2).trans e4⟩
/-- by the data at H alone -/
theorem opd_H {r : R2} {f : Dop} (h : ∀ (H : Hp) (v1 v2 : V) (x y : D) (Ψ : R → Prop) (Q : VK), Rep c.K H x v1 → Rep c.K H y v2 → f x y Ψ → (∀ z v, Ψ (.d z) → (∀ G, Rep c.K G z v) → Q v H) → r v1 v2 H Q) : OpD c r f :=
  fun B G H σ δ r1 r2 v1 v2 x y Ψ Q F h1 h2 e1 e2 hf k => h H v1 v2 x y Ψ Q (view_repH F h1 e1) (view_repH F h2 e2) hf fun z v q hz => k (.d z) v G H q (Ex.refl G) (Ex.refl H) F (hz G)
def dInt (C : Int → Int → Prop) (g : Int → Int → D) : Dop
  | .int i, .int j, k => C i j ∧ k (.d (g i j))
  | _, _, _ => False
theorem opd_I {C : Int → Int → Prop} {g : Int → Int → V} {g' : Int → Int → D} (hg : ∀ G i j, Rep c.K G (g' i j) (g i j)) : OpD c (rI C g) (dInt C g') := opd_H fun H v1 v2 x y Ψ Q h1 h2 hf k => by
  cases x with
  | int i =>
    cases y with
    | int j =>
      unfold Rep at h1 h2
      exact ⟨i, j, h1, h2, hf.1, k _ _ hf.2 fun G => hg G i j⟩
    | _ => exact hf.elim
  | _ => cases y <;> exact hf.elim
def dInt0 (g : Int → Int → D) : Dop
  | .int i, .int j, k => k (.d (g i j))
  | _, _, _ => False
theorem opd_I0 {g : Int → Int → V} {g' : Int → Int → D} (hg : ∀ G i j, Rep c.K G (g' i j) (g i j)) : OpD c (rI0 g) (dInt0 g') := opd_H fun H v1 v2 x y Ψ Q h1 h2 hf k => by
  cases x with
  | int i =>
    cases y with
    | int j =>
      unfold Rep at h1 h2
      exact ⟨i, j, h1, h2, k _ _ hf fun G => hg G i j⟩
    | _ => exact hf.elim
  | _ => cases y <;> exact hf.elim
/-! a new list, a new tuple -/
theorem rv_newL {K : PySem.W.Frag} {B G H : Hp} {σ : St} {δ : List Sl} {q : Addr} {xs : List V} {ds : List D} (F : Frame K B G H σ δ) (hp : H q = none) (h : Reps K G ds xs) : RV K B G (upd H q (.lst xs)) δ (.own q (.lst ds)) (.ref q) := by
  obtain ⟨h1, h2, h3⟩ := F.fresh hp
  exact ⟨rfl, ⟨xs, upd_same, h⟩, h1, h2, h3⟩
theorem rep_newT {K : PySem.W.Frag} {G : Hp} {q : Addr} {xs : List V} {ds : List D} (hp : G q = none) (h : Reps K G ds xs) : Rep K (upd G q (.tup xs)) (.tup ds) (.ref q) := by
  unfold Rep
  exact ⟨q, xs, rfl, SqT.of upd_same, h.mono (Ex.new hp)⟩
/-! ### arguments -/
theorem wa_nil {Ψ : List R → List Sl → Prop} (q : Ψ [] δ) : WA c p tNil δ Ψ := fun B G H σ Q F x k => k [] δ [] G H q (Ex.refl G) F rfl fun _ => ⟨rfl, Ex.refl H⟩
theorem wa_cons {tr : TA} {Ψ : List R → List Sl → Prop} (h : WE c p te δ fun r δ1 => WA c p tr δ1 fun rs δ2 => Ψ (frz r :: rs) δ2) : WA c p (tCons te tr) δ Ψ := by
  intro B G H σ Q F x k
  refine h B G H σ _ F x fun r1 δ1 v1 G1 H1 w1 e1 F1 rv1 p1 => ?_
  obtain ⟨G1', e1', F1', rw1⟩ := rv1.weak F1
  refine w1 B G1' H1 σ _ F1' (c.mono _ _ _ (e1.trans e1') x) fun rs δ2 vs G2 H2 w2 e2 F2 rv2 p2 => ?_
  exact k _ δ2 (v1 :: vs) G2 H2 w2 ((e1.trans e1').trans e2) F2 ⟨v1, vs, rfl, rw1.mono e2, rv2⟩ fun hp => ⟨(p2 hp).1.trans (p1 hp).1, (p1 hp).2.trans (p2 hp).2⟩
def datas : List R → Option (List D)
  | [] => some []
  | .d x :: rs => (datas rs).map (x :: ·)
  | _ :: _ => none
theorem datas_reps {K : PySem.W.Frag} {G : Hp} : ∀ {rs : List R} {ds : List D} {vs : List V}, datas rs = some ds → RVs K G rs vs → Reps K G ds vs
  | [], ds, vs, e, h => by
    cases e
    have e1 : vs = [] := h
    subst e1
    exact reps_nil
  | .d x :: rs, ds, vs, e, h => by
    obtain ⟨v, vr, e1, h1, h2⟩ := h
    subst e1
    unfold datas at e
    cases q : datas rs with
    | none => rw [q] at e; cases e
    | some es =>
      rw [q] at e
      cases e
      exact reps_cons h1 (datas_reps q h2)
  | .own a x :: rs, ds, vs, e, h => by cases e
  | .bor i a :: rs, ds, vs, e, h => by cases e
theorem we_lst {tr : TA} (h : WA c p tr δ fun rs δ1 => ∃ ds, datas rs = some ds ∧ ds.length ≤ 100000 ∧ ∀ a, Φ (.own a (.lst ds)) δ1) : WE c p (tLst tr) δ Φ := by
  intro B G H σ Q F x k
  refine h B G H σ _ F x fun rs δ1 vs G1 H1 w1 e1 F1 rv1 p1 => ?_
  obtain ⟨ds, hd, hl, w⟩ := w1
  have hr := datas_reps hd rv1
  refine ⟨Evl.sz_of (by rw [reps_length hr]; exact hl), fun q hq => ?_⟩
  exact k _ δ1 _ G1 _ (w q) e1 (F1.ex (Ex.new hq)) (rv_newL F1 hq hr) fun hp => ⟨(p1 hp).1, (p1 hp).2.trans (Ex.new hq)⟩
theorem we_tup {tr : TA} (h : WA c p tr δ fun rs δ1 => ∃ ds, datas rs = some ds ∧ ds.length ≤ 100000 ∧ Φ (.d (.tup ds)) δ1) : WE c p (tTup tr) δ Φ := by
  intro B G H σ Q F x k
  refine h B G H σ _ F x fun rs δ1 vs G1 H1 w1 e1 F1 rv1 p1 => ?_
  obtain ⟨ds, hd, hl, w⟩ := w1
  have hr := datas_reps hd rv1
  refine ⟨Evl.sz_of (by rw [reps_length hr]; exact hl), fun q hq => ?_⟩
  have hG := (F1.fresh hq).2.1
  exact k _ δ1 _ (upd G1 q (.tup vs)) _ w (e1.trans (Ex.new hG)) (F1.laid hq) (rep_newT hG hr) fun hp => ⟨(p1 hp).1, (p1 hp).2.trans (Ex.new hq)⟩
/-! ### tests -/
variable {Φt : Bool → List Sl → Prop} {tt tu : TT}
theorem wt_test (h : WE c p te δ fun r δ1 => ∃ b, r = .d (.bl b) ∧ Φt b δ1) : WT c p (tTest te) δ Φt := by
  intro B G H σ Q F x k
  refine h B G H σ _ F x fun r1 δ1 v1 G1 H1 w1 e1 F1 rv1 p1 => ?_
  obtain ⟨b, e, w⟩ := w1
  subst e
  exact ⟨b, (by have h : Rep c.K G1 (.bl b) v1 := rv1; unfold Rep at h; exact h), k b δ1 G1 H1 w e1 F1 p1⟩
theorem wt_B (h : WE c p te δ fun r δ1 => ∃ b, r = .d (.bl b) ∧ Φt b δ1) : WT c p (tB te) δ Φt := wt_test h
/-- the truth of a thing -/
def truD : D → Option Bool
  | .non => some false
  | .bl b => some b
  | .int i => some (i != 0)
  | .str x => some ((x.length : Int) != 0)
  | .lst ds => some (!ds.isEmpty)
  | .tup ds => some (!ds.isEmpty)
  | .dct ds => some (!ds.isEmpty)
  | _ => none
def strOk : D → Prop
  | .str x => x.length ≤ 16000000
  | _ => True
theorem isEmpty_reps {K : PySem.W.Frag} {G : Hp} {ds : List D} {xs : List V} (h : Reps K G ds xs) : xs.isEmpty = ds.isEmpty := by
  have e := reps_length h
  cases ds <;> cases xs <;> simp_all
theorem isEmpty_repK {K : PySem.W.Frag} {G : Hp} : ∀ {ds : List (Key × D)} {xs : List (Key × V)}, RepK K G ds xs → xs.isEmpty = ds.isEmpty
  | [], xs, h => by unfold RepK at h; subst h; rfl
  | (k, d) :: ds, xs, h => by
    unfold RepK at h
    obtain ⟨v, vr, e, _⟩ := h
    subst e
    rfl
def tTruth (K : PySem.W.Frag) (ta : TE) : TT := fun σ H Q => ta σ H fun x H' => ∃ k, TruV K x H' k ∧ Q k H'
theorem pt_tru {X : Cx} {a : Expr} (ha : PE X a ta) (he : ∀ whole, isTrue a X.env whole = (do let v ← whole; standAt a.pos; holding [v] (truthy v))) : PT X a (tTruth X.K ta) := pt_truth ha he
theorem size16 {n : Nat} (h : n ≤ 16000000) : n ≤ sizeLine := by rw [sizeLine_eq]; omega
theorem wt_truth (h : WE c p te δ fun r δ1 => ∃ x b, view δ1 (frz r) = some x ∧ truD x = some b ∧ strOk x ∧ (∀ ds, x = .dct ds → ∃ i a, r = .bor i a) ∧ Φt b δ1) : WT c p (tTruth c.K te) δ Φt := by
  intro B G H σ Q F x k
  refine h B G H σ _ F x fun r1 δ1 v1 G1 H1 w1 e1 F1 rv1 p1 => ?_
  obtain ⟨G1', e1', F1', rw1⟩ := rv1.weak F1
  obtain ⟨y, b, hv, ht, hs, hd, w⟩ := w1
  refine ⟨b, ?_, k b δ1 G1' H1 w (e1.trans e1') F1' p1⟩
  cases y with
  | non => have h := view_repH F1' rw1 hv; unfold Rep at h; subst h; cases ht; rfl
  | bl _ => have h := view_repH F1' rw1 hv; unfold Rep at h; subst h; cases ht; rfl
  | int _ => have h := view_repH F1' rw1 hv; unfold Rep at h; subst h; cases ht; rfl
  | str z => have h := view_repH F1' rw1 hv; unfold Rep at h; subst h; cases ht; exact ⟨size16 hs, rfl⟩
  | lst ds =>
    obtain ⟨a, xs, e, h1, h2⟩ := view_lst F1' rw1 hv
    subst e
    cases ht
    exact .inl ⟨xs, .inl h1, by rw [isEmpty_reps h2]⟩
  | tup ds =>
    obtain ⟨a, xs, e, h1, h2⟩ := view_tup F1' rw1 hv
    subst e
    cases ht
    exact .inr (.inl ⟨xs, h1, by rw [isEmpty_reps h2]⟩)
  | dct ds =>
    obtain ⟨i, a, e⟩ := hd ds rfl
    subst e
    have e2 : v1 = .ref a := rw1
    subst e2
    obtain ⟨ov, _, _, xs, h3, h4⟩ := F1'.get (view_bor' hv)
    cases ht
    exact .inr (.inr ⟨xs, h3, by rw [isEmpty_repK h4]⟩)
  | _ => cases ht
theorem wt_and (h : WT c p tt δ fun b δ1 => (b = true → WT c p tu δ1 Φt) ∧ (b = false → Φt false δ1)) : WT c p (tAnd tt tu) δ Φt := by
  intro B G H σ Q F x k
  refine h B G H σ _ F x fun b δ1 G1 H1 w1 e1 F1 p1 => ?_
  cases b with
  | true => exact w1.1 rfl B G1 H1 σ _ F1 (c.mono _ _ _ e1 x) fun b2 δ2 G2 H2 w2 e2 F2 p2 => k b2 δ2 G2 H2 w2 (e1.trans e2) F2 fun hp => ⟨(p2 hp).1.trans (p1 hp).1, (p1 hp).2.trans (p2 hp).2⟩
  | false => exact k false δ1 G1 H1 (w1.2 rfl) e1 F1 p1
theorem wt_or (h : WT c p tt δ fun b δ1 => (b = true → Φt true δ1) ∧ (b = false → WT c p tu δ1 Φt)) : WT c p (tOr tt tu) δ Φt := by
  intro B G H σ Q F x k
  refine h B G H σ _ F x fun b δ1 G1 H1 w1 e1 F1 p1 => ?_
  cases b with
  | false => exact w1.2 rfl B G1 H1 σ _ F1 (c.mono _ _ _ e1 x) fun b2 δ2 G2 H2 w2 e2 F2 p2 => k b2 δ2 G2 H2 w2 (e1.trans e2) F2 fun hp => ⟨(p2 hp).1.trans (p1 hp).1, (p1 hp).2.trans (p2 hp).2⟩
  | true => exact k true δ1 G1 H1 (w1.1 rfl) e1 F1 p1
theorem wt_not (h : WT c p tt δ fun b δ1 => Φt (!b) δ1) : WT c p (tNot tt) δ Φt := fun B G H σ Q F x k => h B G H σ _ F x fun b δ1 G1 H1 w1 e1 F1 p1 => k (!b) δ1 G1 H1 w1 e1 F1 p1
theorem we_andV (h : WE c p ta δ fun r δ1 => ∃ b, r = .d (.bl b) ∧ (b = true → WE c p tb δ1 Φ) ∧ (b = false → Φ (.d (.bl false)) δ1)) : WE c p (tAndV ta tb) δ Φ := by
  intro B G H σ Q F x k
  refine h B G H σ _ F x fun r1 δ1 v1 G1 H1 w1 e1 F1 rv1 p1 => ?_
  obtain ⟨b, e, w, w'⟩ := w1
  subst e
  have e2 : v1 = .bl b := by have h : Rep c.K G1 (.bl b) v1 := rv1; unfold Rep at h; exact h
  refine ⟨b, e2, ?_⟩
  cases b with
  | true => exact w rfl B G1 H1 σ _ F1 (c.mono _ _ _ e1 x) fun b2 δ2 v2 G2 H2 w2 e2 F2 rv2 p2 => k b2 δ2 v2 G2 H2 w2 (e1.trans e2) F2 rv2 fun hp => ⟨(p2 hp).1.trans (p1 hp).1, (p1 hp).2.trans (p2 hp).2⟩
  | false => exact k _ δ1 _ G1 H1 (w' rfl) e1 F1 rv_bl p1
theorem we_orV (h : WE c p ta δ fun r δ1 => ∃ b, r = .d (.bl b) ∧ (b = true → Φ (.d (.bl true)) δ1) ∧ (b = false → WE c p tb δ1 Φ)) : WE c p (tOrV ta tb) δ Φ := by
  intro B G H σ Q F x k
  refine h B G H σ _ F x fun r1 δ1 v1 G1 H1 w1 e1 F1 rv1 p1 => ?_
  obtain ⟨b, e, w, w'⟩ := w1
  subst e
  have e2 : v1 = .bl b := by have h : Rep c.K G1 (.bl b) v1 := rv1; unfold Rep at h; exact h
  refine ⟨b, e2, ?_⟩
  cases b with
  | false => exact w' rfl B G1 H1 σ _ F1 (c.mono _ _ _ e1 x) fun b2 δ2 v2 G2 H2 w2 e2 F2 rv2 p2 => k b2 δ2 v2 G2 H2 w2 (e1.trans e2) F2 rv2 fun hp => ⟨(p2 hp).1.trans (p1 hp).1, (p1 hp).2.trans (p2 hp).2⟩
  | true => exact k _ δ1 _ G1 H1 (w rfl) e1 F1 rv_bl p1
theorem we_notV (h : WE c p ta δ fun r δ1 => ∃ b, r = .d (.bl b) ∧ Φ (.d (.bl (!b))) δ1) : WE c p (tNotV ta) δ Φ := by
  intro B G H σ Q F x k
  refine h B G H σ _ F x fun r1 δ1 v1 G1 H1 w1 e1 F1 rv1 p1 => ?_
  obtain ⟨b, e, w⟩ := w1
  subst e
  have e2 : v1 = .bl b := by have h : Rep c.K G1 (.bl b) v1 := rv1; unfold Rep at h; exact h
  exact ⟨b, e2, k _ δ1 _ G1 H1 w e1 F1 rv_bl p1⟩
theorem we_if (h : WT c p tt δ fun b δ1 => (b = true → WE c p ta δ1 Φ) ∧ (b = false → WE c p tb δ1 Φ)) : WE c p (tIf tt ta tb) δ Φ := by
  intro B G H σ Q F x k
  refine h B G H σ _ F x fun b δ1 G1 H1 w1 e1 F1 p1 => ?_
  cases b with
  | true => exact w1.1 rfl B G1 H1 σ _ F1 (c.mono _ _ _ e1 x) fun b2 δ2 v2 G2 H2 w2 e2 F2 rv2 p2 => k b2 δ2 v2 G2 H2 w2 (e1.trans e2) F2 rv2 fun hp => ⟨(p2 hp).1.trans (p1 hp).1, (p1 hp).2.trans (p2 hp).2⟩
  | false => exact w1.2 rfl B G1 H1 σ _ F1 (c.mono _ _ _ e1 x) fun b2 δ2 v2 G2 H2 w2 e2 F2 rv2 p2 => k b2 δ2 v2 G2 H2 w2 (e1.trans e2) F2 rv2 fun hp => ⟨(p2 hp).1.trans (p1 hp).1, (p1 hp).2.trans (p2 hp).2⟩
/-- a op b op' c -/
theorem we_chain {r r' : R2} {f f' : Dop} {tc : TE} (ho : OpD c r f) (ho' : OpD c r' f') (h : WE c p ta δ fun r1 δ1 => WE c p tb δ1 fun r2 δ2 => ∃ x y, view δ2 (frz r1) = some x ∧ view δ2 (frz r2) = some y ∧
    f x y fun r => ∃ b, r = .d (.bl b) ∧ (b = true → WE c p tc δ2 fun r3 δ3 => ∃ y z, view δ3 (frz r2) = some y ∧ view δ3 (frz r3) = some z ∧ f' y z fun r => Φ r δ3) ∧ (b = false → Φ (.d (.bl false)) δ2)) : WE c p (tChain r r' ta tb tc) δ Φ := by
  intro B G H σ Q F x k
  refine h B G H σ _ F x fun r1 δ1 v1 G1 H1 w1 e1 F1 rv1 p1 => ?_
  obtain ⟨G1', e1', F1', rw1⟩ := rv1.weak F1
  refine w1 B G1' H1 σ _ F1' (c.mono _ _ _ (e1.trans e1') x) fun r2 δ2 v2 G2 H2 w2 e2 F2 rv2 p2 => ?_
  obtain ⟨G2', e2', F2', rw2⟩ := rv2.weak F2
  obtain ⟨x', y, hx, hy, hd⟩ := w2
  refine ho B G2' H2 σ δ2 _ _ v1 v2 x' y _ _ F2' (rw1.mono (e2.trans e2')) rw2 hx hy hd fun r v G3 H3 q e3 e4 F3 rv3 => ?_
  obtain ⟨b, e, w, w'⟩ := q
  subst e
  have e5 : v = .bl b := by have h : Rep c.K G3 (.bl b) v := rv3; unfold Rep at h; exact h
  refine ⟨b, e5, ?_⟩
  have eG := (e1.trans e1').trans ((e2.trans e2').trans e3)
  cases b with
  | false => exact k _ δ2 _ G3 H3 (w' rfl) eG F3 rv_bl fun hp => ⟨(p2 hp).1.trans (p1 hp).1, ((p1 hp).2.trans (p2 hp).2).trans e4⟩
  | true =>
    refine w rfl B G3 H3 σ _ F3 (c.mono _ _ _ eG x) fun r4 δ4 v4 G4 H4 w4 e6 F4 rv4 p4 => ?_
    obtain ⟨G4', e4', F4', rw4⟩ := rv4.weak F4
    obtain ⟨y', z, hy', hz, hd'⟩ := w4
    refine ho' B G4' H4 σ δ4 _ _ v2 v4 y' z _ _ F4' (rw2.mono (e3.trans (e6.trans e4'))) rw4 hy' hz hd' fun r v G5 H5 q e7 e8 F5 rv5 => ?_
    exact k r δ4 v G5 H5 q (eG.trans ((e6.trans e4').trans e7)) F5 rv5 fun hp => ⟨((p4 hp).1.trans (p2 hp).1).trans (p1 hp).1, ((((p1 hp).2.trans (p2 hp).2).trans e4).trans (p4 hp).2).trans e8⟩
/-! ### calls of built-ins -/
abbrev Dca := List D → (R → Prop) → Prop
def views (δ : List Sl) : List R → Option (List D)
  | [] => some []
  | r :: rs => match view δ r with
    | some x => (views δ rs).map (x :: ·)
    | none => none
def CaD (c : Cd) (r : List V → Hp → VK → Prop) (f : Dca) : Prop := ∀ (B G H : Hp) (σ : St) (δ : List Sl) (rs : List R) (vs : List V) (ds : List D) (Ψ : R → Prop) (Q : VK), Frame c.K B G H σ δ → RVs c.K G rs vs → views δ rs = some ds → f ds Ψ →
  (∀ r v G' H', Ψ r → Ex G G' → Ex H H' → Frame c.K B G' H' σ δ → RV c.K B G' H' δ r v → Q v H') → r vs H Q
theorem we_cb {r : List V → Hp → VK → Prop} {f : Dca} {tr : TA} (ho : CaD c r f) (h : WA c p tr δ fun rs δ1 => ∃ ds, views δ1 rs = some ds ∧ f ds fun r => Φ r δ1) : WE c p (tCB r tr) δ Φ := by
  intro B G H σ Q F x k
  refine h B G H σ _ F x fun rs δ1 vs G1 H1 w1 e1 F1 rv1 p1 => ?_
  obtain ⟨ds, hd, hf⟩ := w1
  refine ho B G1 H1 σ δ1 rs vs ds _ _ F1 rv1 hd hf fun r v G' H' q e3 e4 F3 rv3 => ?_
  exact k r δ1 v G' H' q (e1.trans e3) F3 rv3 fun hp => ⟨(p1 hp).1, (p1 hp).2.trans e4⟩
theorem views_cons {δ : List Sl} {r : R} {rs : List R} {ds : List D} (h : views δ (r :: rs) = some ds) : ∃ x es, ds = x :: es ∧ view δ r = some x ∧ views δ rs = some es := by
  unfold views at h
  split at h
  · rename_i x e
    cases q : views δ rs with
    | none => rw [q] at h; cases h
    | some es =>
      rw [q] at h
      cases h
      exact ⟨x, es, rfl, e, rfl⟩
  · cases h
theorem views_nil {δ : List Sl} {ds : List D} (h : views δ [] = some ds) : ds = [] := by cases h; rfl
/-- one argument -/
theorem cad_1 {r : List V → Hp → VK → Prop} {f : Dca} (hf : ∀ ds Ψ, f ds Ψ → ds.length = 1) (h : ∀ (B G H : Hp) (σ : St) (δ : List Sl) (r1 : R) (v : V) (x : D) (Ψ : R → Prop) (Q : VK), Frame c.K B G H σ δ → RW c.K G r1 v → view δ r1 = some x → f [x] Ψ →
    (∀ r v G' H', Ψ r → Ex G G' → Ex H H' → Frame c.K B G' H' σ δ → RV c.K B G' H' δ r v → Q v H') → r [v] H Q) : CaD c r f := by
  intro B G H σ δ rs vs ds Ψ Q F hr hv hd k
  have hl := hf ds Ψ hd
  cases rs with
  | nil => have e := views_nil hv; subst e; cases hl
  | cons r1 rs =>
    obtain ⟨x, es, e, e1, e2⟩ := views_cons hv
    subst e
    obtain ⟨v, vr, e3, h1, h2⟩ := hr
    cases es with
    | cons y ys => cases hl
    | nil =>
      cases rs with
      | cons r2 rs => obtain ⟨y, ys, e4, _⟩ := views_cons e2; cases e4
      | nil =>
        have e5 : vr = [] := h2
        subst e5
        subst e3
        exact h B G H σ δ r1 v x Ψ Q F h1 e1 hd k
theorem cad_2 {r : List V → Hp → VK → Prop} {f : Dca} (hf : ∀ ds Ψ, f ds Ψ → ds.length = 2) (h : ∀ (B G H : Hp) (σ : St) (δ : List Sl) (r1 r2 : R) (v w : V) (x y : D) (Ψ : R → Prop) (Q : VK), Frame c.K B G H σ δ → RW c.K G r1 v → RW c.K G r2 w → view δ r1 = some x → view δ r2 = some y → f [x, y] Ψ →
    (∀ r v G' H', Ψ r → Ex G G' → Ex H H' → Frame c.K B G' H' σ δ → RV c.K B G' H' δ r v → Q v H') → r [v, w] H Q) : CaD c r f := by
  intro B G H σ δ rs vs ds Ψ Q F hr hv hd k
  have hl := hf ds Ψ hd
  cases rs with
  | nil => have e := views_nil hv; subst e; cases hl
  | cons r1 rs =>
    obtain ⟨x, es, e, e1, e2⟩ := views_cons hv
    subst e
    obtain ⟨v, vr, e3, h1, h2⟩ := hr
    cases rs with
    | nil => have e := views_nil e2; subst e; cases hl
    | cons r2 rs =>
      obtain ⟨y, ys, e4, e5, e6⟩ := views_cons e2
      subst e4
      obtain ⟨w, wr, e7, h3, h4⟩ := h2
      cases ys with
      | cons _ _ => cases hl
      | nil =>
        cases rs with
        | cons r3 rs => obtain ⟨_, _, e4, _⟩ := views_cons e6; cases e4
        | nil =>
          have e8 : wr = [] := h4
          subst e8
          subst e7
          subst e3
          exact h B G H σ δ r1 r2 v w x y Ψ Q F h1 h3 e1 e5 hd k
end
end DL

/-! DL2: statements, loops, comprehensions, defs. -/
namespace DL
open PySem PySem.Spec PyProof.Rows L2
open Evl (Ex)
section
variable {c : Cd} {p : Bool} {δ : List Sl} {te ta tb : TE} {E : En} {t u : TS} {tt : TT} {g : TG}
theorem ws_seq (h : WS c t δ { E with nx := fun δ' => WS c u δ' E }) : WS c (tSeq t u) δ E := by
  intro B G H σ D F x e
  exact h B G H σ { D with nx := u D } F x ⟨fun δ' σ' G' H' w eG F' => w B G' H' σ' D F' (c.mono _ _ _ eG x) (e.mono eG), e.rt, e.bk, e.ct⟩
theorem ws_next (h : E.nx δ) : WS c tNext δ E := fun B G H σ D F x e => e.nx δ σ G H h (Ex.refl G) F
theorem ws_break (h : E.bk δ) : WS c tBreak δ E := fun B G H σ D F x e => e.bk δ σ G H h (Ex.refl G) F
theorem ws_cont (h : E.ct δ) : WS c tCont δ E := fun B G H σ D F x e => e.ct δ σ G H h (Ex.refl G) F
theorem ws_drop (h : WE c p te δ fun _ δ1 => E.nx δ1) : WS c (tDrop te) δ E := fun B G H σ D F x e =>
  h B G H σ _ F x fun r δ1 v G1 H1 w e1 F1 rv p1 => e.nx δ1 σ G1 H1 w e1 F1
theorem ws_ret (h : WE c p te δ E.rt) : WS c (tRet te) δ E := fun B G H σ D F x e =>
  h B G H σ _ F x fun r δ1 v G1 H1 w e1 F1 rv p1 => e.rt r δ1 v σ G1 H1 w e1 F1 rv
theorem ws_retN (h : E.rt (.d .non) δ) : WS c tRetN δ E := fun B G H σ D F x e => e.rt _ δ .non σ G H h (Ex.refl G) F (rep_non (K := c.K) (G := G))
theorem ws_if (h : WT c p tt δ fun b δ1 => (b = true → WS c t δ1 E) ∧ (b = false → WS c u δ1 E)) : WS c (tIfS tt t u) δ E := by
  intro B G H σ D F x e
  refine h B G H σ _ F x fun b δ1 G1 H1 w e1 F1 p1 => ?_
  cases b with
  | true => exact w.1 rfl B G1 H1 σ D F1 (c.mono _ _ _ e1 x) (e.mono e1)
  | false => exact w.2 rfl B G1 H1 σ D F1 (c.mono _ _ _ e1 x) (e.mono e1)
theorem ws_asg (h : WE c p te δ fun r δ1 => WG c g r δ1 E.nx) : WS c (tAsg te g) δ E := by
  intro B G H σ D F x e
  refine h B G H σ _ F x fun r δ1 v G1 H1 w e1 F1 rv p1 => ?_
  exact w B G1 H1 σ v _ F1 (c.mono _ _ _ e1 x) rv fun δ' σ' G' H' q e2 F2 => e.nx δ' σ' G' H' q (e1.trans e2) F2
/-- what a slot holds behind a store -/
def slOf : R → Option Sl
  | .d x => some (.d x)
  | .own a x => some (.own a x)
  | .bor _ _ => none
theorem frame_set {K : PySem.W.Frag} {B G H : Hp} {σ : St} {δ : List Sl} {r : R} {v : V} {s : Sl} {i : Nat} (F : Frame K B G H σ δ) (h : RV K B G H δ r v) (e : slOf r = some s) : Frame K B G H (σ.set i (some v)) (δ.set i s) := by
  cases r with
  | d x =>
    cases e
    have sub := owned_set_no (δ := δ) (i := i) (s := .d x) (fun _ _ z => by cases z)
    exact ⟨F.exB, F.exG, F.dis, F.sl.set i ⟨v, rfl, h⟩, fun a ha => F.own a (sub.subset ha), F.nd.sublist sub⟩
  | own a x =>
    cases e
    obtain ⟨e1, h1, h2, h3, h4⟩ := h
    subst e1
    refine ⟨F.exB, F.exG, F.dis, F.sl.set i ⟨rfl, h1⟩, fun b hb => ?_, nodup_set_own F.nd h4⟩
    rcases owned_set_own hb with q | q
    · subst q; exact ⟨h2, h3⟩
    · exact F.own b q
  | bor j a => cases e
theorem wg_name {r : R} {i : Nat} {s : Sl} {Φ : List Sl → Prop} (e : slOf r = some s) (h : Φ (δ.set i s)) : WG c (gName i) r δ Φ := fun B G H σ v Q F x rv k =>
  k _ _ G H h (Ex.refl G) (frame_set F rv e)
/-- a new object is told as frozen, then handed on -/
theorem wg_frz {r : R} {Φ : List Sl → Prop} (h : WG c g (frz r) δ Φ) : WG c g r δ Φ := by
  intro B G H σ v Q F x rv k
  cases r with
  | d y => exact h B G H σ v Q F x rv k
  | bor i a => exact h B G H σ v Q F x rv k
  | own a y =>
    obtain ⟨G1, e1, F1, r1⟩ := rv.weak F
    exact h B G1 H σ v Q F1 (c.mono _ _ _ e1 x) r1 fun δ' σ' G' H' q e2 F2 => k δ' σ' G' H' q (e1.trans e2) F2
theorem we_frz {Φ : R → List Sl → Prop} (h : WE c p te δ fun r δ' => Φ (frz r) δ') : WE c p te δ fun r δ' => Φ r δ' ∨ Φ (frz r) δ' := we_mono h fun _ _ w => .inr w
/-- several targets -/
def WGs (c : Cd) (g : TGs) (xs : List D) (δ : List Sl) (Φ : List Sl → Prop) : Prop :=
  ∀ (B G H : Hp) (σ : St) (vs : List V) (Q : St → Hp → Prop), Frame c.K B G H σ δ → c.xr B G → Reps c.K G xs vs →
    (∀ δ' σ' G' H', Φ δ' → Ex G G' → Frame c.K B G' H' σ' δ' → Q σ' H') → g vs σ H Q
theorem wgs_nil {Φ : List Sl → Prop} (h : Φ δ) : WGs c gNil [] δ Φ := fun B G H σ vs Q F x rv k => by
  unfold Reps at rv
  exact ⟨rv, k δ σ G H h (Ex.refl G) F⟩
theorem wgs_cons {gs : TGs} {x : D} {xs : List D} {Φ : List Sl → Prop} (h : WG c g (.d x) δ fun δ1 => WGs c gs xs δ1 Φ) : WGs c (gCons g gs) (x :: xs) δ Φ := fun B G H σ vs Q F z rv k => by
  unfold Reps at rv
  obtain ⟨v, vr, e, h1, h2⟩ := rv
  refine ⟨v, vr, e, h B G H σ v _ F z h1 fun δ1 σ1 G1 H1 q e1 F1 => ?_⟩
  exact q B G1 H1 σ1 vr Q F1 (c.mono _ _ _ e1 z) (h2.mono e1) fun δ' σ' G' H' q e2 F2 => k δ' σ' G' H' q (e1.trans e2) F2
theorem wg_tup {gs : TGs} {n : Nat} {xs : List D} {Φ : List Sl → Prop} (hn : xs.length = n) (h : WGs c gs xs δ Φ) : WG c (gTup c.K n gs) (.d (.tup xs)) δ Φ := fun B G H σ v Q F z rv k => by
  have rv' : Rep c.K G (.tup xs) v := rv
  unfold Rep at rv'
  obtain ⟨a, ys, e, h1, h2⟩ := rv'
  exact ⟨a, ys, e, Evl.ex_t F.exG h1, (reps_length h2).trans hn, h B G H σ ys Q F z h2 k⟩
/-- a, b = x, y -/
theorem ws_par {i j : Nat} {tr : TA} (h : WA c p tr δ fun rs δ1 => ∃ x y, rs = [.d x, .d y] ∧ E.nx ((δ1.set i (.d x)).set j (.d y))) : WS c (tPar i j tr) δ E := by
  intro B G H σ D F x e
  refine h B G H σ _ F x fun rs δ1 vs G1 H1 w e1 F1 rv p1 => ?_
  obtain ⟨x, y, er, w⟩ := w
  subst er
  obtain ⟨v, vr, e2, h1, v2, vr2, e3, h2, e4⟩ := rv
  have e5 : vr2 = [] := e4
  subst e5
  subst e3
  subst e2
  refine ⟨v, v2, rfl, e.nx _ _ G1 H1 w e1 ?_⟩
  exact frame_set (r := .d y) (frame_set (r := .d x) F1 h1 rfl) h2 rfl
/-- x op= e, ints or texts -/
theorem ws_aug {i : Nat} {ti : TIp} {f : Dop} (ho : OpD c ti f) (h : ∃ r1, rd δ i = some r1 ∧ WE c p te δ fun r2 δ2 => ∃ x y, view δ2 (frz r1) = some x ∧ view δ2 (frz r2) = some y ∧ f x y fun r => ∃ s, slOf r = some s ∧ E.nx (δ2.set i s)) : WS c (tAug i te ti) δ E := by
  intro B G H σ D F x e
  obtain ⟨r1, hr, h⟩ := h
  have base : ∃ v1, σ[i]? = some (some v1) ∧ RV c.K B G H δ r1 v1 := by
    unfold rd at hr
    split at hr
    · rename_i y ey
      obtain ⟨ov, e1, v, e2, hv⟩ := F.get ey
      subst e2
      cases hr
      exact ⟨v, e1, hv⟩
    · rename_i a y ey
      obtain ⟨ov, e1, e2, hv⟩ := F.get ey
      subst e2
      cases hr
      exact ⟨_, e1, rfl, y, ey⟩
    · cases hr
  obtain ⟨v1, hσ, rv1⟩ := base
  refine ⟨v1, hσ, ?_⟩
  obtain ⟨G1, e1, F1, rw1⟩ := rv1.weak F
  refine h B G1 H σ _ F1 (c.mono _ _ _ e1 x) fun r2 δ2 v2 G2 H2 w2 e2 F2 rv2 p2 => ?_
  obtain ⟨G2', e2', F2', rw2⟩ := rv2.weak F2
  obtain ⟨x', y', hx, hy, hd⟩ := w2
  refine ho B G2' H2 σ δ2 _ _ v1 v2 x' y' _ _ F2' (rw1.mono (e2.trans e2')) rw2 hx hy hd fun r v G' H' q e3 e4 F3 rv3 => ?_
  obtain ⟨s, hs, q⟩ := q
  exact e.nx _ _ G' H' q (e1.trans ((e2.trans e2').trans e3)) (frame_set F3 rv3 hs)
/-- a slot's object is frozen from here on -/
theorem frame_frz {K : PySem.W.Frag} {B G H : Hp} {σ : St} {δ : List Sl} {i : Nat} {a : Addr} {x : D} (F : Frame K B G H σ δ) (e : δ[i]? = some (.own a x)) : ∃ G1, Ex G G1 ∧ Frame K B G1 H σ (δ.set i (.d x)) := by
  obtain ⟨ov, h1, h2, h3⟩ := F.get e
  subst h2
  obtain ⟨o, ho⟩ := h3.there
  obtain ⟨hB, hG⟩ := F.own a (owned_get e)
  have sub := owned_set_no (δ := δ) (i := i) (s := .d x) (fun _ _ z => by cases z)
  have hn : a ∉ owned (δ.set i (.d x)) := by
    have nd := F.nd
    clear F ho hB hG h3 h1 sub
    induction δ generalizing i with
    | nil => simp at e
    | cons s δ ih =>
      cases i with
      | zero =>
        have e2 : s = .own a x := by simpa using e
        subst e2
        exact (List.nodup_cons.mp nd).1
      | succ i =>
        have e2 : δ[i]? = some (.own a x) := by simpa using e
        cases s with
        | no => exact ih e2 nd
        | d y => exact ih e2 nd
        | own b y =>
          have nd' := List.nodup_cons.mp nd
          intro z
          have z' : a ∈ b :: owned (δ.set i (.d x)) := z
          rcases List.mem_cons.mp z' with q | q
          · exact nd'.1 (by rw [← q]; exact owned_get e2)
          · exact ih e2 nd'.2 q
  have F0 : Frame K B G H σ (δ.set i .no) := by
    have sub0 := owned_set_no (δ := δ) (i := i) (s := .no) (fun _ _ z => by cases z)
    exact ⟨F.exB, F.exG, F.dis, F.sl.setS (ov := none) i (fun _ _ => trivial), fun b hb => F.own b (sub0.subset hb), F.nd.sublist sub0⟩
  have e0 : owned (δ.set i .no) = owned (δ.set i (.d x)) := by
    clear F ho hB hG h3 h1 sub hn F0 e
    induction δ generalizing i with
    | nil => rfl
    | cons s δ ih =>
      cases i with
      | zero => rfl
      | succ i => cases s <;> first | exact ih | (show _ :: _ = _ :: _; rw [ih])
  have F1 := F0.freeze ho hB hG (by rw [e0]; exact hn)
  refine ⟨upd G a o, Ex.new hG, F1.exB, F1.exG, F1.dis, ?_, fun b hb => F1.own b (by rw [e0]; exact hb), by rw [← e0]; exact F1.nd⟩
  have z := F1.sl.set (s := .d x) (ov := some (.ref a)) i ⟨_, rfl, h3.rep ho hG⟩
  rw [List.set_set] at z
  have es : σ.set i (some (.ref a)) = σ := by
    apply List.ext_getElem?
    intro j
    by_cases hj : i = j
    · subst hj
      have hl : i < σ.length := (List.getElem?_eq_some_iff.mp h1).1
      rw [List.getElem?_set_self hl, h1]
    · rw [List.getElem?_set_ne hj]
  rw [es] at z
  exact z
theorem ws_frz (i : Nat) {a : Addr} {x : D} (e : δ[i]? = some (.own a x)) (h : WS c t (δ.set i (.d x)) E) : WS c t δ E := fun B G H σ D F z k => by
  obtain ⟨G1, e1, F1⟩ := frame_frz F e
  exact h B G1 H σ D F1 (c.mono _ _ _ e1 z) (k.mono e1)
/-- what is known of a slot is forgotten -/
theorem frame_forget {K : PySem.W.Frag} {B G H : Hp} {σ : St} {δ : List Sl} (i : Nat) (F : Frame K B G H σ δ) : Frame K B G H σ (δ.set i .no) := by
  have sub0 := owned_set_no (δ := δ) (i := i) (s := .no) (fun _ _ z => by cases z)
  exact ⟨F.exB, F.exG, F.dis, F.sl.setS (ov := none) i (fun _ _ => trivial), fun b hb => F.own b (sub0.subset hb), F.nd.sublist sub0⟩
theorem ws_forget (i : Nat) (h : WS c t (δ.set i .no) E) : WS c t δ E := fun B G H σ D F z k => h B G H σ D (frame_forget i F) z k
/-! ### defs -/
abbrev SpD := List Sl → (R → List Sl → Prop) → Prop
def lift (K : PySem.W.Frag) (S : SpD) : Sp := fun vs H Q _ => ∃ B G as, Frame K B G H (vs.map some) as ∧
  S as fun r as' => ∀ v G' H', Ex G G' → Frame K B G' H' (vs.map some) as' → RV K B G' H' as' r v → Q v H'
/-- the arguments' words: a lent object its slot's -/
def toAs (δ : List Sl) : List R → Option (List Sl)
  | [] => some []
  | .d x :: rs => (toAs δ rs).map (.d x :: ·)
  | .bor i a :: rs => match δ[i]? with
    | some (.own b x) => if a = b then (toAs δ rs).map (.own a x :: ·) else none
    | _ => none
  | .own _ _ :: _ => none
def clr (δ : List Sl) : List R → List Sl
  | [] => δ
  | .bor i _ :: rs => (clr δ rs).set i .no
  | _ :: rs => clr δ rs
def fill (δ : List Sl) : List R → List Sl → List Sl
  | .bor i _ :: rs, s :: as => (fill δ rs as).set i s
  | _ :: rs, _ :: as => fill δ rs as
  | _, _ => δ
def backAs (δ : List Sl) (rs : List R) (as : List Sl) : List Sl := fill (clr δ rs) rs as
def noBor : List R → Bool
  | [] => true
  | .d _ :: rs => noBor rs
  | _ :: _ => false
/-- what a call hands back: as data or a new object -/
def ownOut : R → Prop
  | .bor _ _ => False
  | _ => True
/-- the addresses that are lent -/
def lent : List R → List Addr
  | [] => []
  | .bor _ a :: rs => a :: lent rs
  | _ :: rs => lent rs
section
variable {K : PySem.W.Frag} {B G G' H H' : Hp} {σ : St}
theorem toAs_owned : ∀ {rs : List R} {as : List Sl}, toAs δ rs = some as → owned as = lent rs
  | [], as, e => by cases e; rfl
  | .d x :: rs, as, e => by
    unfold toAs at e
    cases q : toAs δ rs with
    | none => rw [q] at e; cases e
    | some es => rw [q] at e; cases e; have ih := toAs_owned q; exact ih
  | .own a x :: rs, as, e => by cases e
  | .bor i a :: rs, as, e => by
    unfold toAs at e
    split at e
    · rename_i b x hx
      split at e
      · cases q : toAs δ rs with
        | none => rw [q] at e; cases e
        | some es =>
          rw [q] at e
          cases e
          show a :: owned es = a :: lent rs
          rw [toAs_owned q]
      · cases e
    · cases e
theorem toAs_at : ∀ {rs : List R} {as : List Sl} {i : Nat} {a : Addr}, toAs δ rs = some as → R.bor i a ∈ rs → ∃ x, δ[i]? = some (.own a x)
  | [], as, i, a, e, h => by cases h
  | r :: rs, as, i, a, e, h => by
    rcases List.mem_cons.mp h with q | q
    · subst q
      unfold toAs at e
      split at e
      · rename_i b x hx
        split at e
        · rename_i q2
          subst q2
          exact ⟨x, hx⟩
        · cases e
      · cases e
    · cases r with
      | d x =>
        unfold toAs at e
        cases q2 : toAs δ rs with
        | none => rw [q2] at e; cases e
        | some es => exact toAs_at q2 q
      | own b x => cases e
      | bor j b =>
        unfold toAs at e
        split at e
        · split at e
          · cases q2 : toAs δ rs with
            | none => rw [q2] at e; cases e
            | some es => exact toAs_at q2 q
          · cases e
        · cases e
theorem toAs_sl (F : Frame K B G H σ δ) : ∀ {rs : List R} {as : List Sl} {vs : List V}, toAs δ rs = some as → RVs K G rs vs → SlsR K G H as (vs.map some)
  | [], as, vs, e, h => by
    cases e
    have e1 : vs = [] := h
    subst e1
    exact (rfl : ([] : St) = [])
  | .d x :: rs, as, vs, e, h => by
    obtain ⟨v, vr, e1, h1, h2⟩ := h
    subst e1
    unfold toAs at e
    cases q : toAs δ rs with
    | none => rw [q] at e; cases e
    | some es =>
      rw [q] at e
      cases e
      exact ⟨some v, vr.map some, rfl, ⟨v, rfl, h1⟩, toAs_sl F q h2⟩
  | .own a x :: rs, as, vs, e, h => by cases e
  | .bor i a :: rs, as, vs, e, h => by
    obtain ⟨v, vr, e1, h1, h2⟩ := h
    subst e1
    have e2 : v = .ref a := h1
    subst e2
    unfold toAs at e
    split at e
    · rename_i b x hx
      split at e
      · rename_i q2
        subst q2
        cases q : toAs δ rs with
        | none => rw [q] at e; cases e
        | some es =>
          rw [q] at e
          cases e
          obtain ⟨ov, _, _, h3⟩ := F.get hx
          exact ⟨some (.ref a), vr.map some, rfl, ⟨rfl, h3⟩, toAs_sl F q h2⟩
      · cases e
    · cases e
theorem clr_no {rs : List R} (h : noBor rs = true) : clr δ rs = δ := by
  induction rs with
  | nil => rfl
  | cons r rs ih =>
    cases r with
    | d x => exact ih h
    | own a x => cases h
    | bor i a => cases h
theorem fill_no {rs : List R} (h : noBor rs = true) : ∀ as, fill δ rs as = δ := by
  induction rs with
  | nil => intro as; cases as <;> rfl
  | cons r rs ih =>
    intro as
    cases r with
    | d x =>
      cases as with
      | nil => rfl
      | cons s as => exact ih h as
    | own a x => cases h
    | bor i a => cases h
theorem lent_no {rs : List R} (h : noBor rs = true) : lent rs = [] := by
  induction rs with
  | nil => rfl
  | cons r rs ih =>
    cases r with
    | d x => exact ih h
    | own a x => cases h
    | bor i a => cases h
theorem not_owned_set : ∀ {δ : List Sl} {i : Nat} {a : Addr} {x : D} {s : Sl}, (owned δ).Nodup → δ[i]? = some (.own a x) → (∀ b y, s ≠ .own b y) → a ∉ owned (δ.set i s)
  | [], i, a, x, s, _, e, _ => by simp at e
  | t :: δ, 0, a, x, s, nd, e, hs => by
    have e2 : t = .own a x := by simpa using e
    subst e2
    cases s with
    | no => exact (List.nodup_cons.mp nd).1
    | d y => exact (List.nodup_cons.mp nd).1
    | own b y => exact absurd rfl (hs b y)
  | t :: δ, i + 1, a, x, s, nd, e, hs => by
    have e2 : δ[i]? = some (.own a x) := by simpa using e
    cases t with
    | no => exact not_owned_set (δ := δ) nd e2 hs
    | d y => exact not_owned_set (δ := δ) nd e2 hs
    | own b y =>
      have nd' := List.nodup_cons.mp nd
      intro z
      have z' : a ∈ b :: owned (δ.set i s) := z
      rcases List.mem_cons.mp z' with q | q
      · exact nd'.1 (by rw [← q]; exact owned_get e2)
      · exact not_owned_set (δ := δ) nd'.2 e2 hs q
theorem clr_sub : ∀ (rs : List R), (owned (clr δ rs)).Sublist (owned δ)
  | [] => List.Sublist.refl _
  | .d x :: rs => clr_sub rs
  | .own a x :: rs => clr_sub rs
  | .bor i a :: rs => (owned_set_no (fun _ _ z => by cases z)).trans (clr_sub rs)
theorem clr_at : ∀ (rs : List R) {j : Nat}, (clr δ rs)[j]? = some .no ∨ (clr δ rs)[j]? = δ[j]?
  | [], j => .inr rfl
  | .d x :: rs, j => clr_at rs
  | .own a x :: rs, j => clr_at rs
  | .bor i a :: rs, j => by
    show ((clr δ rs).set i .no)[j]? = some .no ∨ ((clr δ rs).set i .no)[j]? = δ[j]?
    by_cases h : i = j
    · subst h
      by_cases hl : i < (clr δ rs).length
      · exact .inl (List.getElem?_set_self hl)
      · rw [List.getElem?_set, if_pos rfl, if_neg hl]
        rcases clr_at rs (j := i) with q | q
        · exact absurd (List.getElem?_eq_some_iff.mp q).1 hl
        · rw [← q]
          exact .inr (List.getElem?_eq_none (by omega)).symm
    · rw [List.getElem?_set_ne h]
      exact clr_at rs
theorem not_clr (nd : (owned δ).Nodup) : ∀ {rs : List R} {i : Nat} {a : Addr} {x : D}, δ[i]? = some (.own a x) → R.bor i a ∈ rs → a ∉ owned (clr δ rs)
  | [], i, a, x, e, h => by cases h
  | r :: rs, i, a, x, e, h => by
    rcases List.mem_cons.mp h with q | q
    · subst q
      show a ∉ owned ((clr δ rs).set i .no)
      rcases clr_at rs (j := i) with z | z
      · intro hz
        have hz2 : a ∈ owned (clr δ rs) := (owned_set_no (fun _ _ z => by cases z)).subset hz
        -- a stands at i alone in δ; in clr it is at a place where δ has it, so at i
        have key : ∀ {ε : List Sl}, a ∈ owned ε → ∃ (j : Nat) (y : D), ε[j]? = some (Sl.own a y) := by
          intro ε
          induction ε with
          | nil => intro z; cases z
          | cons s ε ih =>
            intro z
            cases s with
            | no => obtain ⟨j, y, e⟩ := ih z; exact ⟨j + 1, y, by simpa using e⟩
            | d _ => obtain ⟨j, y, e⟩ := ih z; exact ⟨j + 1, y, by simpa using e⟩
            | own b y =>
              have z' : a ∈ b :: owned ε := z
              rcases List.mem_cons.mp z' with q | q
              · subst q; exact ⟨0, y, rfl⟩
              · obtain ⟨j, y, e⟩ := ih q; exact ⟨j + 1, y, by simpa using e⟩
        obtain ⟨j, y, ej⟩ := key hz2
        have hj : δ[j]? = some (.own a y) := by
          rcases clr_at rs (j := j) with q | q
          · rw [q] at ej; cases ej
          · rw [← q]; exact ej
        have hij : i = j := by
          have h1 := not_owned_set (s := .no) nd e (fun _ _ z => by cases z)
          by_cases q : i = j
          · exact q
          · exact absurd (owned_get (δ := δ.set i .no) (i := j) (a := a) (x := y) (by rw [List.getElem?_set_ne q]; exact hj)) h1
        subst hij
        rw [z] at ej
        cases ej
      · exact not_owned_set (nd.sublist (clr_sub rs)) (z.trans e) (fun _ _ z => by cases z)
    · have ih := not_clr nd e q
      cases r with
      | d y => exact ih
      | own b y => exact ih
      | bor j b => exact fun z => ih ((owned_set_no (fun _ _ z => by cases z)).subset z)
theorem lent_mem : ∀ {rs : List R} {a : Addr}, a ∈ lent rs → ∃ i, R.bor i a ∈ rs
  | [], a, h => by cases h
  | .d x :: rs, a, h => by obtain ⟨i, e⟩ := lent_mem (rs := rs) h; exact ⟨i, List.mem_cons_of_mem _ e⟩
  | .own b x :: rs, a, h => by obtain ⟨i, e⟩ := lent_mem (rs := rs) h; exact ⟨i, List.mem_cons_of_mem _ e⟩
  | .bor i b :: rs, a, h => by
    have h' : a ∈ b :: lent rs := h
    rcases List.mem_cons.mp h' with q | q
    · subst q; exact ⟨i, List.mem_cons_self⟩
    · obtain ⟨i, e⟩ := lent_mem (rs := rs) q; exact ⟨i, List.mem_cons_of_mem _ e⟩
/-- the slots filled with what the call has left -/
theorem fill_owned : ∀ {rs : List R} {as : List Sl} {vs : List V} {b : Addr}, RVs K G rs vs → SlsR K G' H' as (vs.map some) → b ∈ owned (fill δ rs as) → b ∈ owned δ ∨ (b ∈ lent rs ∧ b ∈ owned as)
  | [], as, vs, b, h, h', hb => by cases as <;> exact .inl hb
  | r :: rs, [], vs, b, h, h', hb => by cases r <;> exact .inl hb
  | .d x :: rs, s :: as, vs, b, h, h', hb => by
    obtain ⟨v, vr, e1, h1, h2⟩ := h
    subst e1
    obtain ⟨ov, σr, e2, h3, h4⟩ := h'
    cases e2
    rcases fill_owned h2 h4 hb with q | q
    · exact .inl q
    · refine .inr ⟨q.1, ?_⟩
      cases s <;> first | exact q.2 | exact List.mem_cons_of_mem _ q.2
  | .own a x :: rs, s :: as, vs, b, h, h', hb => by
    obtain ⟨v, vr, e1, h1, h2⟩ := h
    exact h1.elim
  | .bor i a :: rs, s :: as, vs, b, h, h', hb => by
    obtain ⟨v, vr, e1, h1, h2⟩ := h
    subst e1
    have e3 : v = .ref a := h1
    subst e3
    obtain ⟨ov, σr, e2, h3, h4⟩ := h'
    cases e2
    have step : b ∈ owned (fill δ rs as) → b ∈ owned δ ∨ (b ∈ a :: lent rs ∧ b ∈ owned (s :: as)) := fun hb => by
      rcases fill_owned h2 h4 hb with q | q
      · exact .inl q
      · refine .inr ⟨List.mem_cons_of_mem _ q.1, ?_⟩
        cases s <;> first | exact q.2 | exact List.mem_cons_of_mem _ q.2
    cases s with
    | no => exact step ((owned_set_no (fun _ _ z => by cases z)).subset hb)
    | d y => exact step ((owned_set_no (fun _ _ z => by cases z)).subset hb)
    | own c y =>
      have ec : c = a := by
        obtain ⟨e, _⟩ := h3
        cases e
        rfl
      subst ec
      rcases owned_set_own hb with q | q
      · subst q; exact .inr ⟨List.mem_cons_self, List.mem_cons_self⟩
      · exact step q
theorem fill_nodup : ∀ {rs : List R} {as : List Sl} {vs : List V}, RVs K G rs vs → SlsR K G' H' as (vs.map some) → (owned δ).Nodup → (lent rs).Nodup → (∀ a ∈ lent rs, a ∉ owned δ) → (owned (fill δ rs as)).Nodup
  | [], as, vs, h, h', n, n2, dj => by cases as <;> exact n
  | r :: rs, [], vs, h, h', n, n2, dj => by cases r <;> exact n
  | .d x :: rs, s :: as, vs, h, h', n, n2, dj => by
    obtain ⟨v, vr, e1, h1, h2⟩ := h
    subst e1
    obtain ⟨ov, σr, e2, h3, h4⟩ := h'
    cases e2
    have ih := fill_nodup h2 h4 n n2 dj
    exact ih
  | .own a x :: rs, s :: as, vs, h, h', n, n2, dj => by
    obtain ⟨v, vr, e1, h1, h2⟩ := h
    exact h1.elim
  | .bor i a :: rs, s :: as, vs, h, h', n, n2, dj => by
    obtain ⟨v, vr, e1, h1, h2⟩ := h
    subst e1
    have e3 : v = .ref a := h1
    subst e3
    obtain ⟨ov, σr, e2, h3, h4⟩ := h'
    cases e2
    have n2' := List.nodup_cons.mp (show (a :: lent rs).Nodup from n2)
    have ih := fill_nodup h2 h4 n n2'.2 (fun b hb => dj b (List.mem_cons_of_mem _ hb))
    cases s with
    | no => exact ih.sublist (owned_set_no (fun _ _ z => by cases z))
    | d y => exact ih.sublist (owned_set_no (fun _ _ z => by cases z))
    | own c y =>
      have ec : c = a := by
        obtain ⟨e, _⟩ := h3
        cases e
        rfl
      subst ec
      refine nodup_set_own ih fun hz => ?_
      rcases fill_owned h2 h4 hz with q | q
      · exact dj c List.mem_cons_self q
      · exact n2'.1 q.1
theorem fill_sl : ∀ {rs : List R} {as : List Sl} {vs : List V}, RVs K G rs vs → SlsR K G' H' as (vs.map some) → (∀ i a, R.bor i a ∈ rs → σ[i]? = some (some (.ref a))) → SlsR K G' H' δ σ → SlsR K G' H' (fill δ rs as) σ
  | [], as, vs, h, h', hb, hs => by cases as <;> exact hs
  | r :: rs, [], vs, h, h', hb, hs => by cases r <;> exact hs
  | .d x :: rs, s :: as, vs, h, h', hb, hs => by
    obtain ⟨v, vr, e1, h1, h2⟩ := h
    subst e1
    obtain ⟨ov, σr, e2, h3, h4⟩ := h'
    cases e2
    have ih := fill_sl h2 h4 (fun i a m => hb i a (List.mem_cons_of_mem _ m)) hs
    exact ih
  | .own a x :: rs, s :: as, vs, h, h', hb, hs => by
    obtain ⟨v, vr, e1, h1, h2⟩ := h
    exact h1.elim
  | .bor i a :: rs, s :: as, vs, h, h', hb, hs => by
    obtain ⟨v, vr, e1, h1, h2⟩ := h
    subst e1
    have e3 : v = .ref a := h1
    subst e3
    obtain ⟨ov, σr, e2, h3, h4⟩ := h'
    cases e2
    have ih := fill_sl h2 h4 (fun i a m => hb i a (List.mem_cons_of_mem _ m)) hs
    refine ih.setS (ov := none) i fun ov e => ?_
    rw [hb i a List.mem_cons_self] at e
    cases e
    exact h3
theorem clr_sl : ∀ (rs : List R), SlsR K G H (clr δ rs) σ → (∀ a ∈ owned (clr δ rs), H' a = H a) → Ex G G' → SlsR K G' H' (clr δ rs) σ := fun rs h e eG => h.ex eG e
theorem clr_slR (h : SlsR K G H δ σ) : ∀ (rs : List R), SlsR K G H (clr δ rs) σ
  | [] => h
  | .d x :: rs => clr_slR h rs
  | .own a x :: rs => clr_slR h rs
  | .bor i a :: rs => (clr_slR h rs).setS (ov := none) i fun _ _ => trivial
/-- THE CALL: from the arguments' words to the caller's slots behind it -/
theorem call_core {S : SpD} {Φ : R → List Sl → Prop} {rs : List R} {as : List Sl} {vs : List V} {Q : VK} {X : XK} (F : Frame K B G H σ δ) (hv : RVs K G rs vs) (hto : toAs δ rs = some as) (nd : (owned as).Nodup)
    (hS : ∀ Ψ : R → List Sl → Prop, (∀ r as', ownOut r → Φ r (backAs δ rs as') → Ψ r as') → S as Ψ)
    (k : ∀ r δ' v G' H', Φ r δ' → Ex G G' → Frame K B G' H' σ δ' → RV K B G' H' δ' r v → (noBor rs = true → δ' = δ ∧ Ex H H') → Q v H') : lift K S vs H Q X := by
  have hown := toAs_owned hto
  have hat : ∀ i a, R.bor i a ∈ rs → ∃ x, δ[i]? = some (.own a x) := fun i a h => toAs_at hto h
  have hlent : ∀ a ∈ lent rs, B a = none ∧ G a = none ∧ a ∉ owned (clr δ rs) := fun a ha => by
    obtain ⟨i, hi⟩ := lent_mem ha
    obtain ⟨x, hx⟩ := hat i a hi
    exact ⟨(F.own a (owned_get hx)).1, (F.own a (owned_get hx)).2, not_clr F.nd hx hi⟩
  have hσ : ∀ i a, R.bor i a ∈ rs → σ[i]? = some (some (.ref a)) := fun i a h => by
    obtain ⟨x, hx⟩ := hat i a h
    obtain ⟨ov, h1, h2, _⟩ := F.get hx
    rw [h1, h2]
  let Bc : Hp := fun b => if (G b).isSome = true ∨ b ∈ owned as then none else H b
  have bc_some : ∀ b o, H b = some o → G b = none → b ∉ owned as → Bc b = some o := fun b o h1 h2 h3 => by
    show (if (G b).isSome = true ∨ b ∈ owned as then none else H b) = some o
    rw [if_neg (by rw [h2]; simp [h3])]
    exact h1
  have bc_none : ∀ b, Bc b = none → (G b).isSome = true ∨ b ∈ owned as ∨ H b = none := fun b h => by
    have h' : (if (G b).isSome = true ∨ b ∈ owned as then none else H b) = none := h
    by_cases q : (G b).isSome = true ∨ b ∈ owned as
    · rcases q with q | q
      · exact .inl q
      · exact .inr (.inl q)
    · rw [if_neg q] at h'
      exact .inr (.inr h')
  have bc_H : ∀ b o, Bc b = some o → H b = some o ∧ G b = none ∧ b ∉ owned as := fun b o h => by
    have h' : (if (G b).isSome = true ∨ b ∈ owned as then none else H b) = some o := h
    by_cases q : (G b).isSome = true ∨ b ∈ owned as
    · rw [if_pos q] at h'; cases h'
    · rw [if_neg q] at h'
      refine ⟨h', ?_, fun z => q (.inr z)⟩
      cases e : G b with
      | none => rfl
      | some u => exact absurd (.inl (by rw [e]; rfl)) q
  refine ⟨Bc, G, as, ⟨fun b o h => (bc_H b o h).1, F.exG, fun b => ?_, toAs_sl F hto hv, fun a ha => ⟨?_, ?_⟩, nd⟩, hS _ fun r as' hr hΦ v G' H' eG F' rv => ?_⟩
  · cases e : Bc b with
    | none => exact .inl rfl
    | some o => exact .inr (bc_H b o e).2.1
  · cases e : Bc a with
    | none => rfl
    | some o => exact absurd ha (bc_H a o e).2.2
  · rw [hown] at ha
    exact (hlent a ha).2.1
  · -- behind the call
    have keep : ∀ b o, H b = some o → G b = none → b ∉ owned as → H' b = some o ∧ G' b = none := fun b o h1 h2 h3 => by
      have h4 := bc_some b o h1 h2 h3
      refine ⟨F'.exB b o h4, ?_⟩
      rcases F'.dis b with q | q
      · rw [h4] at q; cases q
      · exact q
    have hclr : ∀ a ∈ owned (clr δ rs), (∃ o, H a = some o) ∧ G a = none ∧ B a = none ∧ a ∉ owned as := fun a ha => by
      have ha' := (clr_sub rs).subset ha
      exact ⟨F.there ha', (F.own a ha').2, (F.own a ha').1, fun z => by rw [hown] at z; exact (hlent a z).2.2 ha⟩
    have sl0 : SlsR K G' H' (clr δ rs) σ := clr_sl (H := H) rs (clr_slR F.sl rs) (fun a ha => by
      obtain ⟨⟨o, h1⟩, h2, _, h3⟩ := hclr a ha
      rw [h1, (keep a o h1 h2 h3).1]) eG
    have F2 : Frame K B G' H' σ (backAs δ rs as') := by
      refine ⟨fun b o h => ?_, F'.exG, fun b => ?_, fill_sl hv F'.sl hσ sl0, fun a ha => ?_, fill_nodup hv F'.sl (F.nd.sublist (clr_sub rs)) (by rw [← hown]; exact nd) fun a ha => (hlent a ha).2.2⟩
      · have h1 := F.exB b o h
        have h2 : G b = none := (F.dis b).resolve_left (by rw [h]; exact fun z => by cases z)
        refine (keep b o h1 h2 fun z => ?_).1
        rw [hown] at z
        rw [(hlent b z).1] at h
        cases h
      · cases e : B b with
        | none => exact .inl rfl
        | some o =>
          have h1 := F.exB b o e
          have h2 : G b = none := (F.dis b).resolve_left (by rw [e]; exact fun z => by cases z)
          refine .inr (keep b o h1 h2 fun z => ?_).2
          rw [hown] at z
          rw [(hlent b z).1] at e
          cases e
      · rcases fill_owned hv F'.sl ha with q | ⟨q, q2⟩
        · obtain ⟨⟨o, h1⟩, h2, h4, h3⟩ := hclr a q
          exact ⟨h4, (keep a o h1 h2 h3).2⟩
        · exact ⟨(hlent a q).1, (F'.own a q2).2⟩
    refine k r _ v G' H' hΦ eG F2 ?_ fun hn => ⟨?_, fun b o h => ?_⟩
    · cases r with
      | d x => exact rv
      | bor i a => exact hr.elim
      | own a x =>
        obtain ⟨e1, h1, h2, h3, h4⟩ := rv
        have hBa : B a = none ∧ a ∉ owned (clr δ rs) := by
          rcases bc_none a h2 with q | q | q
          · cases e : G a with
            | none => rw [e] at q; cases q
            | some o => rw [eG a o e] at h3; cases h3
          · rw [hown] at q
            exact ⟨(hlent a q).1, (hlent a q).2.2⟩
          · refine ⟨Evl.fresh_back F.exB q, fun z => ?_⟩
            obtain ⟨⟨o, h5⟩, _⟩ := hclr a z
            rw [q] at h5
            cases h5
        refine ⟨e1, h1, hBa.1, h3, fun z => ?_⟩
        rcases fill_owned hv F'.sl z with q | q
        · exact hBa.2 q
        · exact h4 q.2
    · unfold backAs
      rw [fill_no hn, clr_no hn]
    · cases e : G b with
      | some u =>
        have h1 := F.exG b u e
        rw [h] at h1
        cases h1
        exact F'.exG b o (eG b o e)
      | none => exact (keep b o h e (by rw [hown, lent_no hn]; exact fun z => by cases z)).1
end
theorem we_call {S : SpD} {tr : TA} {X : XK} {Φ : R → List Sl → Prop} (h : WA c p tr δ fun rs δ1 => ∃ as, toAs δ1 rs = some as ∧ (owned as).Nodup ∧ (p = true → noBor rs = true) ∧
    ∀ Ψ : R → List Sl → Prop, (∀ r as', ownOut r → Φ r (backAs δ1 rs as') → Ψ r as') → S as Ψ) : WE c p (tCall (lift c.K S) [] X tr) δ Φ := by
  intro B G H σ Q F x k
  refine h B G H σ _ F x fun rs δ1 vs G1 H1 w e1 F1 rv p1 => ?_
  obtain ⟨as, hto, nd, hp, hS⟩ := w
  show lift c.K S (vs ++ []) H1 Q X
  rw [List.append_nil]
  exact call_core F1 rv hto nd hS fun r δ' v G' H' q eG F' rv' n => k r δ' v G' H' q (e1.trans eG) F' rv' fun hp' => ⟨(n (hp hp')).1.trans (p1 hp').1, (p1 hp').2.trans (n (hp hp')).2⟩
/-- the parameters' words behind the body -/
def parOk : List Sl → List Sl → Prop
  | .own a _ :: as, .own b _ :: δ => b = a ∧ parOk as δ
  | .own _ _ :: _, _ => False
  | _ :: as, _ :: δ => parOk as δ
  | _ :: _, [] => False
  | [], _ => True
def parBack : List Sl → List Sl → List Sl
  | .own _ _ :: as, s :: δ => s :: parBack as δ
  | s :: as, _ :: δ => s :: parBack as δ
  | _, _ => []
/-- what the body hands back -/
def RetD (as : List Sl) (Φ : R → List Sl → Prop) (r : R) (δ : List Sl) : Prop := parOk as δ ∧ match r with
  | .d x => Φ (.d x) (parBack as δ)
  | .own a x => Φ (.own a x) (parBack as δ)
  | .bor i a => as.length ≤ i ∧ ∃ x, δ[i]? = some (.own a x) ∧ Φ (.own a x) (parBack as δ)
abbrev defEn (as : List Sl) (Φ : R → List Sl → Prop) : En := { nx := RetD as Φ (.d .non), rt := RetD as Φ }
section
variable {K : PySem.W.Frag} {B G G' H H' : Hp} {σ : St}
theorem par_sl : ∀ {as δ : List Sl} {vs : List V} {σ : St}, SlsR K G H as (vs.map some) → parOk as δ → SlsR K G' H' δ σ → Ex G G' → SlsR K G' H' (parBack as δ) (vs.map some)
  | [], δ, vs, σ, h, ok, h', e => by
    cases vs with
    | nil => cases δ <;> exact (rfl : ([] : St) = [])
    | cons v vs => have z : some v :: vs.map some = [] := h; cases z
  | s :: as, [], vs, σ, h, ok, h', e => by cases s <;> exact ok.elim
  | .no :: as, t :: δ, vs, σ, h, ok, h', e => by
    obtain ⟨ov, σr, e1, h1, h2⟩ := h
    obtain ⟨ov', σr', e1', h1', h2'⟩ := h'
    cases vs with
    | nil => cases e1
    | cons v vs =>
      cases e1
      exact ⟨some v, vs.map some, rfl, trivial, par_sl h2 ok h2' e⟩
  | .d x :: as, t :: δ, vs, σ, h, ok, h', e => by
    obtain ⟨ov, σr, e1, h1, h2⟩ := h
    obtain ⟨ov', σr', e1', h1', h2'⟩ := h'
    cases vs with
    | nil => cases e1
    | cons v vs =>
      cases e1
      exact ⟨some v, vs.map some, rfl, h1.ex e (fun a x z => by cases z), par_sl h2 ok h2' e⟩
  | .own a x :: as, .no :: δ, vs, σ, h, ok, h', e => ok.elim
  | .own a x :: as, .d y :: δ, vs, σ, h, ok, h', e => ok.elim
  | .own a x :: as, .own b y :: δ, vs, σ, h, ok, h', e => by
    obtain ⟨ov, σr, e1, h1, h2⟩ := h
    obtain ⟨ov', σr', e1', h1', h2'⟩ := h'
    obtain ⟨eb, ok⟩ := ok
    subst eb
    cases vs with
    | nil => cases e1
    | cons v vs =>
      cases e1
      refine ⟨some v, vs.map some, rfl, ⟨h1.1, h1'.2⟩, par_sl h2 ok h2' e⟩
theorem parBack_sub : ∀ {as δ : List Sl}, parOk as δ → (owned (parBack as δ)).Sublist (owned δ)
  | [], δ, _ => by cases δ <;> exact List.nil_sublist _
  | s :: as, [], ok => by cases s <;> exact ok.elim
  | .no :: as, t :: δ, ok => by
    have ih := parBack_sub (as := as) (δ := δ) ok
    cases t <;> first | exact ih | exact ih.trans (List.sublist_cons_self _ _)
  | .d x :: as, t :: δ, ok => by
    have ih := parBack_sub (as := as) (δ := δ) ok
    cases t <;> first | exact ih | exact ih.trans (List.sublist_cons_self _ _)
  | .own a x :: as, .no :: δ, ok => ok.elim
  | .own a x :: as, .d y :: δ, ok => ok.elim
  | .own a x :: as, .own b y :: δ, ok => (parBack_sub (as := as) (δ := δ) ok.2).cons_cons b
/-- an owned place beyond the parameters is none of theirs -/
theorem parBack_not : ∀ {as δ : List Sl} {i : Nat} {a : Addr} {x : D}, (owned δ).Nodup → parOk as δ → as.length ≤ i → δ[i]? = some (.own a x) → a ∉ owned (parBack as δ)
  | [], δ, i, a, x, nd, ok, hi, e => by cases δ <;> exact fun z => by cases z
  | s :: as, [], i, a, x, nd, ok, hi, e => by simp at e
  | s :: as, t :: δ, 0, a, x, nd, ok, hi, e => by simp at hi
  | .no :: as, t :: δ, i + 1, a, x, nd, ok, hi, e => by
    have e2 : δ[i]? = some (.own a x) := by simpa using e
    have hi2 : as.length ≤ i := by simpa using hi
    cases t with
    | own c y => exact parBack_not (as := as) (δ := δ) (List.nodup_cons.mp nd).2 ok hi2 e2
    | no => exact parBack_not (as := as) (δ := δ) nd ok hi2 e2
    | d y => exact parBack_not (as := as) (δ := δ) nd ok hi2 e2
  | .d z :: as, t :: δ, i + 1, a, x, nd, ok, hi, e => by
    have e2 : δ[i]? = some (.own a x) := by simpa using e
    have hi2 : as.length ≤ i := by simpa using hi
    cases t with
    | own c y => exact parBack_not (as := as) (δ := δ) (List.nodup_cons.mp nd).2 ok hi2 e2
    | no => exact parBack_not (as := as) (δ := δ) nd ok hi2 e2
    | d y => exact parBack_not (as := as) (δ := δ) nd ok hi2 e2
  | .own b z :: as, .no :: δ, i + 1, a, x, nd, ok, hi, e => ok.elim
  | .own b z :: as, .d _ :: δ, i + 1, a, x, nd, ok, hi, e => ok.elim
  | .own b z :: as, .own c y :: δ, i + 1, a, x, nd, ok, hi, e => by
    have e2 : δ[i]? = some (.own a x) := by simpa using e
    have hi2 : as.length ≤ i := by simpa using hi
    have nd' := List.nodup_cons.mp nd
    intro q
    have q' : a ∈ c :: owned (parBack as δ) := q
    rcases List.mem_cons.mp q' with q | q
    · exact nd'.1 (by rw [← q]; exact owned_get e2)
    · exact parBack_not (as := as) (δ := δ) nd'.2 ok.2 hi2 e2 q
/-- A DEF: its body from its parameters' words -/
theorem lift_body {S : SpD} {t : TS} {N : List Str} {vs : List V} {H : Hp} {Q : VK} {X : XK} (h : lift K S vs H Q X)
    (hb : ∀ as Φ, as.length = vs.length → S as Φ → WS (c0 K) t (as ++ List.replicate (N.length - as.length) .no) (defEn as Φ)) : t { nx := fun _ H' => Q .non H', rt := Q } (start N vs) H := by
  obtain ⟨B, G, as, F, hS⟩ := h
  have hl : as.length = vs.length := by have e := F.sl.len; simpa using e.symm
  have F0 : Frame K B G H (L2.start N vs) (as ++ List.replicate (N.length - as.length) .no) := by
    have e0 : owned (as ++ List.replicate (N.length - as.length) .no) = owned as := by rw [owned_append, owned_no, List.append_nil]
    refine ⟨F.exB, F.exG, F.dis, ?_, by rw [e0]; exact F.own, by rw [e0]; exact F.nd⟩
    unfold L2.start
    rw [hl]
    refine F.sl.append ?_
    have z := SlsR.nos (K := K) (G := G) (H := H) (List.replicate (N.length - vs.length) none)
    rw [List.length_replicate] at z
    exact z
  have fin : ∀ (δ' : List Sl) (σ' : St) (G' H' : Hp), parOk as δ' → Ex G G' → Frame K B G' H' σ' δ' → Frame K B G' H' (vs.map some) (parBack as δ') := fun δ' σ' G' H' ok e F' =>
    ⟨F'.exB, F'.exG, F'.dis, par_sl F.sl ok F'.sl e, fun a ha => F'.own a ((parBack_sub ok).subset ha), F'.nd.sublist (parBack_sub ok)⟩
  refine hb as _ hl hS B G H (L2.start N vs) _ F0 trivial ⟨fun δ' σ' G' H' w eG F' => ?_, fun r δ' v σ' G' H' w eG F' rv => ?_, fun _ _ _ _ w => w.elim, fun _ _ _ _ w => w.elim⟩
  · exact w.2 .non G' H' eG (fin δ' σ' G' H' w.1 eG F') (rep_non (K := K) (G := G'))
  · obtain ⟨ok, w⟩ := w
    cases r with
    | d x => exact w v G' H' eG (fin δ' σ' G' H' ok eG F') rv
    | own a x =>
      obtain ⟨e1, h1, h2, h3, h4⟩ := rv
      exact w v G' H' eG (fin δ' σ' G' H' ok eG F') ⟨e1, h1, h2, h3, fun z => h4 ((parBack_sub ok).subset z)⟩
    | bor i a =>
      obtain ⟨hi, x, ex, w⟩ := w
      obtain ⟨e1, _⟩ := rv
      obtain ⟨ov, _, _, h3⟩ := F'.get ex
      exact w v G' H' eG (fin δ' σ' G' H' ok eG F') ⟨e1, h3, (F'.own a (owned_get ex)).1, (F'.own a (owned_get ex)).2, parBack_not F'.nd ok hi ex⟩
end
end
end DL

/-! DL3: loops and comprehensions. -/
namespace DL
open PySem PySem.Spec PyProof.Rows L2
open Evl (Ex)
section
variable {c : Cd} {p : Bool} {δ : List Sl} {te ta tb : TE} {E : En} {t u : TS} {tt : TT} {g : TG}
/-! ### what is walked -/
def Yl (K : PySem.W.Frag) (G : Hp) (ds : List D) (Y : Nat → Hp → V → Hp → Prop) : Prop := ∀ i H2 x H3, i < ds.length → Y i H2 x H3 →
  (H3 = H2 ∧ ∃ d, ds[i]? = some d ∧ Rep K G d x) ∨ ∃ (T : Addr) (o : HO) (d : D), H2 T = none ∧ H3 = upd H2 T o ∧ ds[i]? = some d ∧ ∀ G2, Ex G G2 → G2 T = none → Rep K (upd G2 T o) d x
def WI (c : Cd) (p : Bool) (wi : TI) (δ : List Sl) (Φ : List D → List Sl → Prop) : Prop :=
  ∀ (B G H : Hp) (σ : St) (R : It → Hp → Prop), Frame c.K B G H σ δ → c.xr B G →
    (∀ ds δ' J G' H', Φ ds δ' → Ex G G' → Frame c.K B G' H' σ δ' → (p = true → δ' = δ ∧ Ex H H') →
      (∃ Gd Y, Walk J ds.length Gd Y ∧ (∀ H2, Ex G' H2 → Gd H2) ∧ Yl c.K G' ds Y) → R J H') → wi σ H R
theorem sql {K : PySem.W.Frag} {H : Hp} {a : Addr} {xs : List V} (h : Rd H a (.lst xs)) : SqL K H a xs := Or.inl h
theorem wi_list {Φ : List D → List Sl → Prop} (h : WE c p te δ fun r δ1 => ∃ ds, frz r = .d (.lst ds) ∧ Φ ds δ1) : WI c p (iList c.K te) δ Φ := by
  intro B G H σ R F x k
  refine h B G H σ _ F x fun r δ1 v G1 H1 w e1 F1 rv p1 => ?_
  obtain ⟨ds, e, w⟩ := w
  obtain ⟨G1', e1', F1', rw1⟩ := rv.weak F1
  rw [e] at rw1
  have rw2 : Rep c.K G1' (.lst ds) v := rw1
  unfold Rep at rw2
  obtain ⟨a, xs, e2, h1, h2⟩ := rw2
  refine ⟨a, e2, ⟨xs, .inl (Evl.ex_rd F1'.exG h1)⟩, k ds δ1 _ G1' H1 w (e1.trans e1') F1' p1 ⟨_, YAt xs, by rw [← reps_length h2]; exact walk_list, fun H2 e3 => sql (Evl.ex_rd e3 h1), fun i H2 x H3 hi (y : YAt xs i H2 x H3) => .inl ⟨y.1, ?_⟩⟩⟩
  obtain ⟨d, hd, hr⟩ := reps_getV h2 y.2
  exact ⟨d, hd, hr⟩
theorem wi_tup {Φ : List D → List Sl → Prop} (h : WE c p te δ fun r δ1 => ∃ ds, frz r = .d (.tup ds) ∧ Φ ds δ1) : WI c p (iTup c.K te) δ Φ := by
  intro B G H σ R F x k
  refine h B G H σ _ F x fun r δ1 v G1 H1 w e1 F1 rv p1 => ?_
  obtain ⟨ds, e, w⟩ := w
  obtain ⟨G1', e1', F1', rw1⟩ := rv.weak F1
  rw [e] at rw1
  have rw2 : Rep c.K G1' (.tup ds) v := rw1
  unfold Rep at rw2
  obtain ⟨a, xs, e2, h1, h2⟩ := rw2
  refine ⟨a, e2, ⟨xs, Evl.ex_t F1'.exG h1⟩, k ds δ1 _ G1' H1 w (e1.trans e1') F1' p1 ⟨_, YAt xs, by rw [← reps_length h2]; exact walk_tup, fun H2 e3 => Evl.ex_t e3 h1, fun i H2 x H3 hi (y : YAt xs i H2 x H3) => .inl ⟨y.1, ?_⟩⟩⟩
  obtain ⟨d, hd, hr⟩ := reps_getV h2 y.2
  exact ⟨d, hd, hr⟩
def rangeD (lo : Int) (n : Nat) : List D := (List.range n).map fun (i : Nat) => D.int (lo + (i : Int))
theorem rangeD_len (lo : Int) (n : Nat) : (rangeD lo n).length = n := by unfold rangeD; simp
theorem rangeD_get {lo : Int} {n i : Nat} {d : D} (h : (rangeD lo n)[i]? = some d) : i < n ∧ d = .int (lo + i) := by
  unfold rangeD at h
  rw [List.getElem?_map] at h
  by_cases hi : i < n
  · rw [List.getElem?_range hi] at h
    cases h
    exact ⟨hi, rfl⟩
  · rw [List.getElem?_eq_none (by simpa using hi)] at h
    cases h
theorem rangeD_at {lo : Int} {n i : Nat} (h : i < n) : (rangeD lo n)[i]? = some (.int (lo + i)) := by
  unfold rangeD
  rw [List.getElem?_map, List.getElem?_range h]
  rfl
theorem wi_range1 {tr : TA} {Φ : List D → List Sl → Prop} (h : WA c p tr δ fun rs δ1 => ∃ j : Int, rs = [.d (.int j)] ∧ -(2 ^ 62) ≤ j ∧ j < 2 ^ 62 ∧ Φ (rangeD 0 j.toNat) δ1) : WI c p (iRng1 tr) δ Φ := by
  intro B G H σ R F x k
  refine h B G H σ _ F x fun rs δ1 vs G1 H1 w e1 F1 rv p1 => ?_
  obtain ⟨j, e, h1, h2, w⟩ := w
  subst e
  obtain ⟨v, vr, e2, h3, h4⟩ := rv
  have e3 : vr = [] := h4
  have e4 : v = .int j := by have h3' : Rep c.K G1 (.int j) v := h3; unfold Rep at h3'; exact h3'
  subst e4
  subst e3
  subst e2
  refine ⟨j, rfl, h1, h2, k _ δ1 _ G1 H1 w e1 F1 p1 ⟨_, YFn fun q => .int (0 + (q : Int)), by rw [rangeD_len]; exact walk_range, fun _ _ => trivial, fun i2 H2 y H3 hi (yy : YFn (fun q => .int (0 + (q : Int))) i2 H2 y H3) => .inl ⟨yy.1, _, rangeD_at (by rw [rangeD_len] at hi; exact hi), ?_⟩⟩⟩
  rw [yy.2]
  exact rep_int
theorem wi_range2 {tr : TA} {Φ : List D → List Sl → Prop} (h : WA c p tr δ fun rs δ1 => ∃ i j : Int, rs = [.d (.int i), .d (.int j)] ∧ (-(2 ^ 62) ≤ i ∧ i < 2 ^ 62 ∧ -(2 ^ 62) ≤ j ∧ j < 2 ^ 62) ∧ Φ (rangeD i (j - i).toNat) δ1) : WI c p (iRng2 tr) δ Φ := by
  intro B G H σ R F x k
  refine h B G H σ _ F x fun rs δ1 vs G1 H1 w e1 F1 rv p1 => ?_
  obtain ⟨i, j, e, h1, w⟩ := w
  subst e
  obtain ⟨v, vr, e2, h3, v2, vr2, e22, h32, h4⟩ := rv
  have e3 : vr2 = [] := h4
  have e4 : v = .int i := by have h3' : Rep c.K G1 (.int i) v := h3; unfold Rep at h3'; exact h3'
  have e5 : v2 = .int j := by have h3' : Rep c.K G1 (.int j) v2 := h32; unfold Rep at h3'; exact h3'
  subst e4 e5 e3 e22 e2
  refine ⟨i, j, rfl, h1, k _ δ1 _ G1 H1 w e1 F1 p1 ⟨_, YFn fun q => .int (i + (q : Int)), by rw [rangeD_len]; exact walk_range, fun _ _ => trivial, fun i2 H2 y H3 hi (yy : YFn (fun q => .int (i + (q : Int))) i2 H2 y H3) => .inl ⟨yy.1, _, rangeD_at (by rw [rangeD_len] at hi; exact hi), ?_⟩⟩⟩
  rw [yy.2]
  exact rep_int
def signsD (z : Str) : List D := z.cps.toList.map fun ch => D.str ⟨#[ch]⟩
theorem wi_str {Φ : List D → List Sl → Prop} (h : WE c p te δ fun r δ1 => ∃ z, r = .d (.str z) ∧ Φ (signsD z) δ1) : WI c p (iStr te) δ Φ := by
  intro B G H σ R F x k
  refine h B G H σ _ F x fun r δ1 v G1 H1 w e1 F1 rv p1 => ?_
  obtain ⟨z, e, w⟩ := w
  subst e
  have e2 : v = .str z := by have h : Rep c.K G1 (.str z) v := rv; unfold Rep at h; exact h
  have el : (signsD z).length = z.cps.size := by unfold signsD; simp
  refine ⟨z, e2, k _ δ1 _ G1 H1 w e1 F1 p1 ⟨_, fun i H2 y H3 => H3 = H2 ∧ ∃ c, z.cps[i]? = some c ∧ y = .str ⟨#[c]⟩, by rw [el]; exact walk_str, fun _ _ => trivial, fun i H2 y H3 hi (yy : H3 = H2 ∧ ∃ c, z.cps[i]? = some c ∧ y = .str ⟨#[c]⟩) => .inl ⟨yy.1, ?_⟩⟩⟩
  obtain ⟨_, ch, hc, ey⟩ := yy
  refine ⟨.str ⟨#[ch]⟩, ?_, ?_⟩
  · unfold signsD
    rw [List.getElem?_map, Array.getElem?_toList, hc]
    rfl
  · rw [ey]; exact rep_str
theorem yl_pair {K : PySem.W.Frag} {G : Hp} {f g : Nat → Option V} {ds : List D} (h : ∀ i x y, i < ds.length → f i = some x → g i = some y → ∃ d e, ds[i]? = some (.tup [d, e]) ∧ Rep K G d x ∧ Rep K G e y) : Yl K G ds (YPair f g) := by
  intro i H2 v H3 hi y
  obtain ⟨T, x, z, e1, h1, e2, e3, e4⟩ := y
  obtain ⟨d, e, h2, h3, h4⟩ := h i x z hi e3 e4
  refine .inr ⟨T, _, .tup [d, e], h1, e2, h2, fun G2 eG hT => ?_⟩
  rw [e1]
  exact rep_newT hT (reps_cons (h3.mono eG) (reps_one (h4.mono eG)))
def enumD (ds : List D) : List D := (List.range ds.length).map fun (i : Nat) => D.tup [.int (i : Int), ds.getD i .non]
theorem wi_enum {tr : TA} {Φ : List D → List Sl → Prop} (h : WA c p tr δ fun rs δ1 => ∃ ds, rs = [.d (.lst ds)] ∧ Φ (enumD ds) δ1) : WI c p (iEnum c.K tr) δ Φ := by
  intro B G H σ R F x k
  refine h B G H σ _ F x fun rs δ1 vs G1 H1 w e1 F1 rv p1 => ?_
  obtain ⟨ds, e, w⟩ := w
  subst e
  obtain ⟨v, vr, e2, h3, h4⟩ := rv
  have e3 : vr = [] := h4
  have h3' : Rep c.K G1 (.lst ds) v := h3
  unfold Rep at h3'
  obtain ⟨a, xs, e4, h5, h6⟩ := h3'
  subst e4 e3 e2
  have el : (enumD ds).length = xs.length := by unfold enumD; simp [reps_length h6]
  refine ⟨a, xs, rfl, .inl (Evl.ex_rd F1.exG h5), k _ δ1 _ G1 H1 w e1 F1 p1 ⟨_, _, by rw [el]; exact walk_enum, fun H2 e => sql (Evl.ex_rd e h5), yl_pair fun i x y hi hx hy => ?_⟩⟩
  cases hx
  obtain ⟨d, hd, hr⟩ := reps_getV h6 hy
  have hi2 : i < ds.length := (List.getElem?_eq_some_iff.mp hd).1
  refine ⟨.int i, d, ?_, rep_int, hr⟩
  unfold enumD
  rw [List.getElem?_map, List.getElem?_range hi2]
  show some (D.tup [.int (i : Int), ds.getD i .non]) = _
  rw [List.getD_eq_getElem?_getD, hd]
  rfl
def zipD (ds es : List D) : List D := (ds.zip es).map fun q => D.tup [q.1, q.2]
theorem wi_zip {tr : TA} {Φ : List D → List Sl → Prop} (h : WA c p tr δ fun rs δ1 => ∃ ds es, rs = [.d (.lst ds), .d (.lst es)] ∧ Φ (zipD ds es) δ1) : WI c p (iZip c.K tr) δ Φ := by
  intro B G H σ R F x k
  refine h B G H σ _ F x fun rs δ1 vs G1 H1 w e1 F1 rv p1 => ?_
  obtain ⟨ds, es, e, w⟩ := w
  subst e
  obtain ⟨v, vr, e2, h3, v2, vr2, e22, h32, h4⟩ := rv
  have e3 : vr2 = [] := h4
  have h3' : Rep c.K G1 (.lst ds) v := h3
  unfold Rep at h3'
  obtain ⟨a, xs, e4, h5, h6⟩ := h3'
  have h32' : Rep c.K G1 (.lst es) v2 := h32
  unfold Rep at h32'
  obtain ⟨b, ys, e5, h7, h8⟩ := h32'
  subst e4 e5 e3 e22 e2
  have el : (zipD ds es).length = min xs.length ys.length := by unfold zipD; simp [reps_length h6, reps_length h8]
  refine ⟨a, b, xs, ys, rfl, .inl (Evl.ex_rd F1.exG h5), .inl (Evl.ex_rd F1.exG h7), k _ δ1 _ G1 H1 w e1 F1 p1 ⟨_, _, walk_zip el, fun H2 e => ⟨sql (Evl.ex_rd e h5), sql (Evl.ex_rd e h7)⟩, yl_pair fun i x y hi hx hy => ?_⟩⟩
  obtain ⟨d, hd, hr⟩ := reps_getV h6 hx
  obtain ⟨d2, hd2, hr2⟩ := reps_getV h8 hy
  refine ⟨d, d2, ?_, hr, hr2⟩
  unfold zipD
  rw [List.getElem?_map, (List.getElem?_zip_eq_some (z := (d, d2))).mpr ⟨hd, hd2⟩]
  rfl
/-! ### loops -/
theorem ws_for {wi : TI} (h : WI c p wi δ fun ds δ1 => ∃ I : Nat → List Sl → Prop, I 0 δ1 ∧
    (∀ i d δ2, ds[i]? = some d → I i δ2 → WG c g (.d d) δ2 fun δ3 => WS c t δ3 { E with nx := I (i + 1), ct := I (i + 1), bk := E.nx }) ∧ ∀ δ2, I ds.length δ2 → E.nx δ2) : WS c (tFor wi g t) δ E := by
  intro B G H σ Dd F x e
  refine h B G H σ _ F x fun ds δ1 J G1 H1 w e1 F1 p1 ww => ?_
  obtain ⟨I, i0, it, iend⟩ := w
  obtain ⟨Gd, Y, W, hG, hY⟩ := ww
  refine for_it W (fun i σ' H' => ∃ δ' G', I i δ' ∧ Ex G1 G' ∧ Frame c.K B G' H' σ' δ') ⟨δ1, G1, i0, Ex.refl G1, F1⟩ (fun i σ' H' _ ⟨δ', G', _, e2, F2⟩ => hG H' (e2.trans F2.exG)) (fun i y σ' H2 H3 hi pv yy => ?_) fun σ' H' ⟨δ', G', hI, e2, F2⟩ => e.nx δ' σ' G' H' (iend δ' hI) (e1.trans e2) F2
  obtain ⟨δ', G', hI, e2, F2⟩ := pv
  have go : ∀ (d : D) (G2 H2 : Hp), ds[i]? = some d → Ex G1 G2 → Frame c.K B G2 H2 σ' δ' → Rep c.K G2 d y → g y σ' H2 fun σ2 H2 => t { Dd with nx := fun σ' H' => ∃ δ' G', I (i + 1) δ' ∧ Ex G1 G' ∧ Frame c.K B G' H' σ' δ', ct := fun σ' H' => ∃ δ' G', I (i + 1) δ' ∧ Ex G1 G' ∧ Frame c.K B G' H' σ' δ', bk := Dd.nx } σ2 H2 := by
    intro d G2 H2 hd e3 F3 hr
    refine it i d δ' hd hI B G2 H2 σ' y _ F3 (c.mono _ _ _ (e1.trans e3) x) hr fun δ3 σ3 G3 H3 hws e4 F4 => ?_
    have e5 := e3.trans e4
    refine hws B G3 H3 σ3 _ F4 (c.mono _ _ _ (e1.trans e5) x) ⟨fun δ4 σ4 G4 H4 w e6 F5 => ⟨δ4, G4, w, e5.trans e6, F5⟩, fun r δ4 v σ4 G4 H4 w e6 F5 => e.rt r δ4 v σ4 G4 H4 w (e1.trans (e5.trans e6)) F5, fun δ4 σ4 G4 H4 w e6 F5 => e.nx δ4 σ4 G4 H4 w (e1.trans (e5.trans e6)) F5, fun δ4 σ4 G4 H4 w e6 F5 => ⟨δ4, G4, w, e5.trans e6, F5⟩⟩
  rcases hY i H2 y H3 hi yy with ⟨q1, d, hd, hr⟩ | ⟨T, o, d, hT, q1, hd, hr⟩
  · subst q1
    exact go d G' H3 hd e2 F2 (hr.mono e2)
  · subst q1
    have hT' := (F2.fresh hT).2.1
    exact go d (upd G' T o) _ hd (e2.trans (Ex.new hT')) (F2.laid hT) (hr G' e2 hT')
theorem ws_while {I : Nat → List Sl → Prop} (n : Nat) (h0 : I n δ) (hs : ∀ m δ', I m δ' → WT c p tt δ' fun b δ2 => (b = true → WS c t δ2 { E with nx := fun δ3 => ∃ m', m' < m ∧ I m' δ3, ct := fun δ3 => ∃ m', m' < m ∧ I m' δ3, bk := E.nx }) ∧ (b = false → E.nx δ2)) : WS c (tWhile tt t) δ E := by
  intro B G H σ Dd F x e
  refine ⟨fun m σ' H' => ∃ δ' G', I m δ' ∧ Ex G G' ∧ Frame c.K B G' H' σ' δ', ⟨n, δ, G, h0, Ex.refl G, F⟩, fun m σ1 H1 w => ?_⟩
  obtain ⟨δ1, G1, hI, e1, F1⟩ := w
  refine hs m δ1 hI B G1 H1 σ1 _ F1 (c.mono _ _ _ e1 x) fun b δ2 G2 H2 w e2 F2 p2 => ?_
  have e3 := e1.trans e2
  cases b with
  | true =>
    rw [if_pos rfl]
    refine ⟨fun σ' H' => ∃ m', m' < m ∧ ∃ δ' G', I m' δ' ∧ Ex G G' ∧ Frame c.K B G' H' σ' δ', fun σ' H' z => z, ?_⟩
    exact w.1 rfl B G2 H2 σ1 _ F2 (c.mono _ _ _ e3 x) ⟨fun δ4 σ4 G4 H4 ⟨m', hm, w⟩ e6 F5 => ⟨m', hm, δ4, G4, w, e3.trans e6, F5⟩, fun r δ4 v σ4 G4 H4 w e6 F5 => e.rt r δ4 v σ4 G4 H4 w (e3.trans e6) F5, fun δ4 σ4 G4 H4 w e6 F5 => e.nx δ4 σ4 G4 H4 w (e3.trans e6) F5, fun δ4 σ4 G4 H4 ⟨m', hm, w⟩ e6 F5 => ⟨m', hm, δ4, G4, w, e3.trans e6, F5⟩⟩
  | false =>
    rw [if_neg Bool.false_ne_true]
    exact e.nx δ2 σ1 G2 H2 (w.2 rfl) e3 F2
/-! ### comprehensions -/
theorem wipe_get {σ : St} {j : Nat} : ∀ {vs : List Nat}, (wipe σ vs)[j]? = if j ∈ vs ∧ j < σ.length then some none else σ[j]?
  | [] => by simp [wipe]
  | v :: vs => by
    have ih := wipe_get (σ := σ) (j := j) (vs := vs)
    show ((wipe σ vs).set v none)[j]? = _
    rw [List.getElem?_set]
    by_cases e : v = j
    · subst e
      rw [if_pos rfl, wipe_length]
      by_cases hl : v < σ.length
      · rw [if_pos hl, if_pos ⟨List.mem_cons_self, hl⟩]
      · rw [if_neg hl, if_neg (fun z => hl z.2), List.getElem?_eq_none (by omega)]
    · rw [if_neg e, ih]
      have hne : (j ∈ v :: vs) ↔ j ∈ vs := by simp [Ne.symm e]
      simp only [hne]
theorem wipe_wipe (σ : St) (vs : List Nat) : wipe (wipe σ vs) vs = wipe σ vs := by
  apply List.ext_getElem?
  intro j
  rw [wipe_get, wipe_get, wipe_length]
  by_cases h : j ∈ vs ∧ j < σ.length
  · rw [if_pos h, if_pos h]
  · rw [if_neg h]
theorem wipe_set {σ : St} {vs : List Nat} {j : Nat} {x : Option V} (h : j ∈ vs) : wipe (σ.set j x) vs = wipe σ vs := by
  apply List.ext_getElem?
  intro i
  rw [wipe_get, wipe_get, List.length_set]
  by_cases q : i ∈ vs ∧ i < σ.length
  · rw [if_pos q, if_pos q]
  · rw [if_neg q, if_neg q, List.getElem?_set]
    by_cases e : j = i
    · subst e
      have hl : ¬ j < σ.length := fun z => q ⟨h, z⟩
      rw [if_pos rfl, if_neg hl, List.getElem?_eq_none (by omega)]
    · rw [if_neg e]
def wipeS (δ : List Sl) : List Nat → List Sl
  | [] => δ
  | v :: vs => (wipeS δ vs).set v .no
def restS (δ ε : List Sl) : List Nat → List Sl
  | [] => ε
  | v :: vs => match δ[v]? with
    | some s => (restS δ (ε.set v .no) vs).set v s
    | none => restS δ (ε.set v .no) vs
def nonOwn (δ : List Sl) : List Nat → Prop
  | [] => True
  | v :: vs => (match δ[v]? with
    | some (.own _ _) => False
    | _ => True) ∧ nonOwn δ vs
section
variable {K : PySem.W.Frag} {B G G' H H' : Hp} {σ : St}
theorem wipeS_sub : ∀ vs : List Nat, (owned (wipeS δ vs)).Sublist (owned δ)
  | [] => List.Sublist.refl _
  | v :: vs => (owned_set_no (fun _ _ z => by cases z)).trans (wipeS_sub vs)
theorem wipeS_sl (h : SlsR K G H δ σ) : ∀ vs : List Nat, SlsR K G H (wipeS δ vs) (wipe σ vs)
  | [] => h
  | v :: vs => (wipeS_sl h vs).set v trivial
theorem frame_wipe (F : Frame K B G H σ δ) (vs : List Nat) : Frame K B G H (wipe σ vs) (wipeS δ vs) :=
  ⟨F.exB, F.exG, F.dis, wipeS_sl F.sl vs, fun a ha => F.own a ((wipeS_sub vs).subset ha), F.nd.sublist (wipeS_sub vs)⟩
theorem sl_any : ∀ {ε : List Sl} {σ : St} {v : Nat} {ov : Option V}, SlsR K G H ε (σ.set v ov) → SlsR K G H (ε.set v .no) σ
  | ε, [], v, ov, h => by
    have h' : SlsR K G H ε [] := h
    cases ε with
    | nil => exact h'
    | cons s ε => obtain ⟨_, _, e, _⟩ := h'; cases e
  | [], w :: σ, v, ov, h => by
    have e : (w :: σ).set v ov = [] := h
    cases v <;> cases e
  | s :: ε, w :: σ, 0, ov, h => by
    obtain ⟨ow, σr, e, h1, h2⟩ := h
    cases e
    exact ⟨w, σ, rfl, trivial, h2⟩
  | s :: ε, w :: σ, v + 1, ov, h => by
    obtain ⟨ow, σr, e, h1, h2⟩ := h
    cases e
    exact ⟨w, σ, rfl, h1, sl_any h2⟩
theorem restS_sl (h : SlsR K G H δ σ) (eG : Ex G G') : ∀ {vs : List Nat} {ε : List Sl}, nonOwn δ vs → SlsR K G' H' ε (wipe σ vs) → SlsR K G' H' (restS δ ε vs) σ
  | [], ε, _, h' => h'
  | v :: vs, ε, n, h' => by
    have h1 : SlsR K G' H' (ε.set v .no) (wipe σ vs) := sl_any (ov := none) h'
    have ih := restS_sl h eG n.2 h1
    unfold restS
    cases e : δ[v]? with
    | none => exact ih
    | some s =>
      refine ih.setS (ov := none) v fun ov eo => ?_
      obtain ⟨ov', e1, h2⟩ := h.get e
      rw [eo] at e1
      cases e1
      have n1 := n.1
      rw [e] at n1
      cases s with
      | no => trivial
      | d x => exact h2.ex eG (fun a x z => by cases z)
      | own a x => exact n1.elim
theorem restS_sub : ∀ {vs : List Nat} {ε : List Sl}, nonOwn δ vs → (owned (restS δ ε vs)).Sublist (owned ε)
  | [], ε, _ => List.Sublist.refl _
  | v :: vs, ε, n => by
    have ih := (restS_sub (vs := vs) (ε := ε.set v .no) n.2).trans (owned_set_no (fun _ _ z => by cases z))
    unfold restS
    cases e : δ[v]? with
    | none => exact ih
    | some s =>
      have n1 := n.1
      rw [e] at n1
      refine (owned_set_no fun a x z => ?_).trans ih
      subst z
      exact n1.elim
end
theorem owned_set_non : ∀ {δ : List Sl} {v : Nat}, (∀ a x, δ[v]? ≠ some (.own a x)) → owned (δ.set v .no) = owned δ
  | [], v, _ => rfl
  | s :: δ, 0, h => by
    cases s with
    | no => rfl
    | d x => rfl
    | own a x => exact absurd rfl (h a x)
  | s :: δ, v + 1, h => by
    have ih := owned_set_non (δ := δ) (v := v) (fun a x e => h a x (by simpa using e))
    cases s with
    | no => exact ih
    | d x => exact ih
    | own a x =>
      show a :: owned (δ.set v .no) = a :: owned δ
      rw [ih]
theorem wipeS_get {δ : List Sl} {j : Nat} : ∀ {vs : List Nat}, (wipeS δ vs)[j]? = some .no ∨ (wipeS δ vs)[j]? = δ[j]?
  | [] => .inr rfl
  | v :: vs => by
    show ((wipeS δ vs).set v .no)[j]? = some .no ∨ ((wipeS δ vs).set v .no)[j]? = δ[j]?
    have ih := wipeS_get (δ := δ) (j := j) (vs := vs)
    by_cases e : v = j
    · subst e
      by_cases hl : v < (wipeS δ vs).length
      · exact .inl (List.getElem?_set_self hl)
      · rw [List.set_eq_of_length_le (by omega)]
        exact ih
    · rw [List.getElem?_set_ne e]
      exact ih
theorem wipeS_own {δ : List Sl} : ∀ {vs : List Nat}, nonOwn δ vs → owned (wipeS δ vs) = owned δ
  | [], _ => rfl
  | v :: vs, n => by
    have ih := wipeS_own (vs := vs) n.2
    show owned ((wipeS δ vs).set v .no) = owned δ
    rw [owned_set_non, ih]
    intro a x e
    rcases wipeS_get (δ := δ) (j := v) (vs := vs) with q | q
    · rw [q] at e; cases e
    · rw [q] at e
      have n1 := n.1
      rw [e] at n1
      exact n1
/-- a comprehension's target -/
def WGc (g : TG) (K : PySem.W.Frag) (d : D) (ε : List Sl) (vs : List Nat) (Φ : List Sl → Prop) : Prop :=
  ∀ (B G H : Hp) (σ : St) (v : V) (Q : St → Hp → Prop), Frame K B G H σ ε → Rep K G d v → (∀ ε' σ', Φ ε' → owned ε' = owned ε → Frame K B G H σ' ε' → wipe σ' vs = wipe σ vs → Q σ' H) → g v σ H Q
theorem owned_set_d : ∀ {ε : List Sl} {j : Nat} {d : D}, ε[j]? = some .no → owned (ε.set j (.d d)) = owned ε
  | [], j, d, h => rfl
  | s :: ε, 0, d, h => by
    have e : s = .no := by simpa using h
    subst e
    rfl
  | s :: ε, j + 1, d, h => by
    have ih := owned_set_d (ε := ε) (j := j) (d := d) (by simpa using h)
    cases s with
    | no => exact ih
    | d x => exact ih
    | own a x =>
      show a :: owned (ε.set j (.d d)) = a :: owned ε
      rw [ih]
theorem wgc_name {K : PySem.W.Frag} {d : D} {ε : List Sl} {vs : List Nat} {j : Nat} {Φ : List Sl → Prop} (hj : j ∈ vs) (hε : ε[j]? = some .no) (h : Φ (ε.set j (.d d))) : WGc (gName j) K d ε vs Φ := fun B G H σ v Q F r k =>
  k _ _ h (owned_set_d hε) (frame_set (r := .d d) F r rfl) (wipe_set hj)
def WGcs (g : TGs) (K : PySem.W.Frag) (ds : List D) (ε : List Sl) (vs : List Nat) (Φ : List Sl → Prop) : Prop :=
  ∀ (B G H : Hp) (σ : St) (v : List V) (Q : St → Hp → Prop), Frame K B G H σ ε → Reps K G ds v → (∀ ε' σ', Φ ε' → owned ε' = owned ε → Frame K B G H σ' ε' → wipe σ' vs = wipe σ vs → Q σ' H) → g v σ H Q
theorem wgcs_nil {K : PySem.W.Frag} {ε : List Sl} {vs : List Nat} {Φ : List Sl → Prop} (h : Φ ε) : WGcs gNil K [] ε vs Φ := fun B G H σ v Q F r k => by
  unfold Reps at r
  exact ⟨r, k ε σ h rfl F rfl⟩
theorem wgcs_cons {gs : TGs} {K : PySem.W.Frag} {d : D} {ds : List D} {ε : List Sl} {vs : List Nat} {Φ : List Sl → Prop} (h : WGc g K d ε vs fun ε1 => WGcs gs K ds ε1 vs Φ) : WGcs (gCons g gs) K (d :: ds) ε vs Φ := fun B G H σ v Q F r k => by
  unfold Reps at r
  obtain ⟨v1, vr, e, h1, h2⟩ := r
  refine ⟨v1, vr, e, h B G H σ v1 _ F h1 fun ε1 σ1 w o1 F1 e1 => ?_⟩
  exact w B G H σ1 vr Q F1 h2 fun ε2 σ2 w2 o2 F2 e2 => k ε2 σ2 w2 (o2.trans o1) F2 (e2.trans e1)
theorem wgc_tup {gs : TGs} {K : PySem.W.Frag} {n : Nat} {ds : List D} {ε : List Sl} {vs : List Nat} {Φ : List Sl → Prop} (hn : ds.length = n) (h : WGcs gs K ds ε vs Φ) : WGc (gTup K n gs) K (.tup ds) ε vs Φ := fun B G H σ v Q F r k => by
  have r' : Rep K G (.tup ds) v := r
  unfold Rep at r'
  obtain ⟨a, ys, e, h1, h2⟩ := r'
  exact ⟨a, ys, e, Evl.ex_t F.exG h1, (reps_length h2).trans hn, h B G H σ ys Q F h2 k⟩
theorem take_get {α : Type} {ds : List α} {i : Nat} {d : α} (h : ds[i]? = some d) : ds.take (i + 1) = ds.take i ++ [d] := by
  rw [List.take_add_one, h]
  rfl
/-- a pure comprehension -/
theorem we_lcP {wi : TI} {vs : List Nat} {Φ : R → List Sl → Prop} (h : WI c p wi δ fun ds δ1 => nonOwn δ1 vs ∧ ds.length ≤ 100000 ∧ ∃ kf : DL.D → Option DL.D,
    (∀ (i : Nat) (d : DL.D), ds[i]? = some d → WGc g c.K d (wipeS δ1 vs) vs fun ε1 => WT (c0 c.K) true tt ε1 fun b ε2 => (b = true → WE (c0 c.K) true te ε2 fun r _ => ∃ x, frz r = .d x ∧ kf d = some x) ∧ (b = false → kf d = none)) ∧
    ∀ a, Φ (.own a (.lst (ds.filterMap kf))) δ1) : WE c p (tLc wi g tt te vs) δ Φ := by
  intro B G H σ Q F x k
  refine h B G H σ _ F x fun ds δ1 J G1 H1 w e1 F1 p1 ww => ?_
  obtain ⟨hno, hlen, kf, step, w⟩ := w
  obtain ⟨Gd, Y, W, hG, hY⟩ := ww
  intro D hD
  obtain ⟨hB, hG1, hO⟩ := F1.fresh hD
  refine lc_it W (fun i H' => ∃ G' xs, Ex G1 G' ∧ Ex H1 H' ∧ Frame c.K B G' H' σ δ1 ∧ H' D = some (.lst xs) ∧ Reps c.K G' ((ds.take i).filterMap kf) xs ∧ G' D = none) ⟨G1, [], Ex.refl G1, Ex.new hD, F1.ex (Ex.new hD), upd_same, by simpa using reps_nil, hG1⟩
    (fun i H' _ ⟨G', xs, e2, _, F2, _⟩ => hG H' (e2.trans F2.exG)) (fun i y H2 H3 hi pv yy => ?_) fun H' pv => ?_
  · obtain ⟨G', xs, e2, eH, F2, hx, hr, hGD⟩ := pv
    have hOD : ∀ a ∈ owned δ1, a ≠ D := fun a ha z => hO (by rw [← z]; exact ha)
    have go : ∀ (d : DL.D) (G2 H2 : Hp), ds[i]? = some d → Ex G1 G2 → Ex H1 H2 → Frame c.K B G2 H2 σ δ1 → H2 D = some (.lst xs) → Reps c.K G2 ((ds.take i).filterMap kf) xs → G2 D = none → Rep c.K G2 d y → g y (wipe σ vs) H2 fun σ2 H2 => wipe σ2 vs = wipe σ vs ∧ tt σ2 H2 fun b H3 =>
        if b = true then te σ2 H3 fun y H4 => ∃ acc, H4 D = some (.lst acc) ∧ acc.length < sizeLine ∧ ∃ G' xs, Ex G1 G' ∧ Ex H1 (upd H4 D (.lst (acc ++ [y]))) ∧ Frame c.K B G' (upd H4 D (.lst (acc ++ [y]))) σ δ1 ∧ (upd H4 D (.lst (acc ++ [y]))) D = some (.lst xs) ∧ Reps c.K G' ((ds.take (i + 1)).filterMap kf) xs ∧ G' D = none
        else ∃ G' xs, Ex G1 G' ∧ Ex H1 H3 ∧ Frame c.K B G' H3 σ δ1 ∧ H3 D = some (.lst xs) ∧ Reps c.K G' ((ds.take (i + 1)).filterMap kf) xs ∧ G' D = none := by
      intro d G2 H2 hd e3 eH3 F3 hx3 hr3 hGD3 hrep
      have Fb : Frame c.K (upd B D (.lst xs)) G2 H2 (wipe σ vs) (wipeS δ1 vs) := by
        have Fw := frame_wipe F3 vs
        refine ⟨fun b o e => ?_, Fw.exG, fun b => ?_, Fw.sl, fun a ha => ⟨?_, (Fw.own a ha).2⟩, Fw.nd⟩
        · by_cases q : b = D
          · subst q; rw [upd_same] at e; rw [hx3]; exact e
          · rw [upd_ne q] at e; exact Fw.exB b o e
        · by_cases q : b = D
          · subst q; exact .inr hGD3
          · rw [upd_ne q]; exact Fw.dis b
        · rw [upd_ne (hOD a ((wipeS_sub vs).subset ha))]
          exact (Fw.own a ha).1
      refine step i d hd _ G2 H2 (wipe σ vs) y _ Fb hrep fun ε1 σ1 hw og Fg ew => ⟨ew.trans (wipe_wipe σ vs), ?_⟩
      refine hw _ G2 H2 σ1 _ Fg trivial fun b ε2 G4 H4 w4 e4 F4 p4 => ?_
      obtain ⟨_, eH4⟩ := p4 rfl
      have hx4 := eH4 D _ hx3
      have dis4 : G4 D = none := by
        rcases F4.dis D with q | q
        · rw [upd_same] at q; cases q
        · exact q
      have F4' : Frame c.K B G4 H4 σ δ1 := by
        refine (F3.ex eH4).more e4 F4.exG (fun b => ?_) fun a ha => ?_
        · by_cases q : b = D
          · subst q; exact .inr dis4
          · have z := F4.dis b; rw [upd_ne q] at z; exact z
        · have own4 : owned ε2 = owned δ1 := by
            rw [(p4 rfl).1, og, wipeS_own hno]
          exact (F4.own a (by rw [own4]; exact ha)).2
      cases b with
      | false =>
        rw [if_neg Bool.false_ne_true]
        refine ⟨G4, xs, e3.trans e4, eH3.trans eH4, F4', hx4, ?_, dis4⟩
        rw [take_get hd, List.filterMap_append]
        have e0 : [d].filterMap kf = [] := by simp [w4.2 rfl]
        rw [e0, List.append_nil]
        exact hr3.mono e4
      | true =>
        rw [if_pos rfl]
        refine w4.1 rfl _ G4 H4 σ1 _ F4 trivial fun r ε5 v5 G5 H5 w5 e5 F5 rv5 p5 => ?_
        obtain ⟨eε5, eH5⟩ := p5 rfl
        obtain ⟨z, hz, hkf⟩ := w5
        have hx5 := eH5 D _ hx4
        have dis5 : G5 D = none := by
          rcases F5.dis D with q | q
          · rw [upd_same] at q; cases q
          · exact q
        have own5 : ∀ a ∈ owned δ1, G5 a = none := fun a ha => (F5.own a (by rw [eε5, (p4 rfl).1, og, wipeS_own hno]; exact ha)).2
        have F5' : Frame c.K B G5 H5 σ δ1 := (F4'.ex eH5).more e5 F5.exG (fun b => by
          by_cases q : b = D
          · subst q; exact .inr dis5
          · have z := F5.dis b; rw [upd_ne q] at z; exact z) own5
        have rep5 : ∃ G6, Ex G5 G6 ∧ Frame c.K B G6 H5 σ δ1 ∧ Rep c.K G6 z v5 ∧ G6 D = none := by
          cases r with
          | d y =>
            cases hz
            exact ⟨G5, Ex.refl G5, F5', rv5, dis5⟩
          | bor i a => cases hz
          | own a y =>
            cases hz
            obtain ⟨q1, q2, q3, q4, q5⟩ := rv5
            subst q1
            obtain ⟨o, ho⟩ := q2.there
            have haD : a ≠ D := fun q => by subst q; rw [upd_same] at q3; cases q3
            rw [upd_ne haD] at q3
            have hao : a ∉ owned δ1 := fun q => q5 (by rw [eε5, (p4 rfl).1, og, wipeS_own hno]; exact q)
            exact ⟨upd G5 a o, Ex.new q4, F5'.freeze ho q3 q4 hao, q2.rep ho q4, by rw [upd_ne haD.symm]; exact dis5⟩
        obtain ⟨G6, e6, F6, hr6, dis6⟩ := rep5
        have hlx : xs.length ≤ 100000 := by
          rw [reps_length hr3]
          exact Nat.le_trans (List.length_filterMap_le _ _) (by rw [List.length_take]; omega)
        have hout : Ex H1 (upd H5 D (.lst (xs ++ [v5]))) := Ex.mut ((eH3.trans eH4).trans eH5) hD
        refine ⟨xs, hx5, Nat.lt_of_le_of_lt hlx (by rw [sizeLine_eq]; decide), G6, xs ++ [v5], (e3.trans e4).trans (e5.trans e6), hout, ?_, upd_same, ?_, dis6⟩
        · -- D is foreign to the frame
          have mv : ∀ {G : Hp}, Frame c.K B G H5 σ δ1 → G D = none → Frame c.K B G (upd H5 D (.lst (xs ++ [v5]))) σ δ1 := fun {G} F hG => by
            refine ⟨fun b o e => ?_, fun b o e => ?_, F.dis, F.sl.ex (Ex.refl G) (fun a ha => upd_ne (hOD a ha)), F.own, F.nd⟩
            · by_cases q : b = D
              · subst q; rw [hB] at e; cases e
              · rw [upd_ne q]; exact F.exB b o e
            · by_cases q : b = D
              · subst q; rw [hG] at e; cases e
              · rw [upd_ne q]; exact F.exG b o e
          exact mv F6 dis6
        · rw [take_get hd, List.filterMap_append]
          have e0 : [d].filterMap kf = [z] := by simp [hkf]
          rw [e0]
          exact reps_append (hr3.mono ((e4.trans e5).trans e6)) (reps_one hr6)
    rcases hY i H2 y H3 hi yy with ⟨q1, d, hd, hrep⟩ | ⟨T, o, d, hT, q1, hd, hrep⟩
    · subst q1
      exact go d G' H3 hd e2 eH F2 hx hr hGD (hrep.mono e2)
    · subst q1
      have hT' := (F2.fresh hT).2.1
      have hTD : D ≠ T := fun q => by subst q; rw [hx] at hT; cases hT
      exact go d (upd G' T o) _ hd (e2.trans (Ex.new hT')) (eH.trans (Ex.new hT)) (F2.laid hT) (by rw [upd_ne hTD]; exact hx) (hr.mono (Ex.new hT')) (by rw [upd_ne hTD]; exact hGD) (hrep G' e2 hT')
  · obtain ⟨G', xs, e2, eH, F2, hx, hr, hGD⟩ := pv
    rw [List.take_length] at hr
    exact k _ δ1 _ G' H' (w D) (e1.trans e2) F2 ⟨rfl, ⟨xs, hx, hr⟩, hB, hGD, hO⟩ fun hp => ⟨(p1 hp).1, (p1 hp).2.trans eH⟩
end
end DL

/-! DL4: operators, built-ins and methods, by data. -/
namespace DL
open PySem PySem.Spec PyProof.Rows L2
open Evl (Ex)
section
variable {X : Cx}
/-- list + list, whatever is read -/
def rCatR : R2 := fun x y H Q => ∃ l b xs zs, x = .ref l ∧ y = .ref b ∧ Rd H l (.lst xs) ∧ Rd H b (.lst zs) ∧ xs.length + zs.length ≤ sizeLine ∧ ∀ p, H p = none → Q (.ref p) (upd H p (.lst (xs ++ zs)))
theorem op_catR : OpR X (binaryOp .Add) rCatR := by
  intro pins s σ H x y v u Q I rx ry h
  obtain ⟨l, b, xs, zs, rfl, rfl, hH, hB, hz, q⟩ := h
  cases rx
  cases ry
  obtain ⟨z, its, n, r, e⟩ := (hH.ok I.hok : ObjOk X.prog X.w H s.heap l (.lst xs))
  obtain ⟨z2, its2, n2, r2, e2⟩ := (hB.ok I.hok : ObjOk X.prog X.w H s.heap b (.lst zs))
  have hl := r.length
  have hl2 := r2.length
  refine PySem.P.add_list e e2 ?_ (by rw [List.size_toArray, List.size_toArray]; omega)
  have ea : its.toArray ++ its2.toArray = (its ++ its2).toArray := by simp
  rw [ea]
  exact ⟨.ref _, _, I.lnew (t' := s.toks) (r.append r2) (by rw [List.length_append]; omega), rfl, q _ I.fresh⟩
def rAddS : R2 := fun x y H Q => ∃ i j, x = .str i ∧ y = .str j ∧ i.length + j.length ≤ sizeLine ∧ Q (.str (i ++ j)) H
def rAddA : R2 := fun x y H Q => rI0 (fun i j => .int (i + j)) x y H Q ∨ rAddS x y H Q ∨ rCatR x y H Q
theorem op_addA : OpR X (binaryOp .Add) rAddA := op_add.or (OpR.or op_add_str op_catR)
def rMulA : R2 := fun x y H Q => rI CMul (fun i j => .int (i * j)) x y H Q ∨ rI CMulX (fun i j => .int (i * j)) x y H Q
theorem op_mulA : OpR X (binaryOp .Mult) rMulA := op_mul.or op_mulX
def rEqA (K : PySem.W.Frag) : R2 := fun x y H Q => rEq x y H Q ∨ rEqD K x y H Q
def rNeA (K : PySem.W.Frag) : R2 := fun x y H Q => rNe x y H Q ∨ rNeD K x y H Q
theorem op_eqA (hu : X.A.units + 64 < cLine) : OpR X (compareOp .Eq) (rEqA X.K) := op_eq.or (op_eqD hu)
theorem op_neA (hu : X.A.units + 64 < cLine) : OpR X (compareOp .NotEq) (rNeA X.K) := op_ne.or (op_neD hu)
def rInS : R2 := fun x y H Q => ∃ (c : Nat) (z : Str), x = .str ⟨#[c]⟩ ∧ y = .str z ∧ Q (.bl (decide (c ∈ z.cps.toList))) H
def rNotInS : R2 := fun x y H Q => ∃ (c : Nat) (z : Str), x = .str ⟨#[c]⟩ ∧ y = .str z ∧ Q (.bl (!decide (c ∈ z.cps.toList))) H
def rInA (K : PySem.W.Frag) : R2 := fun x y H Q => rInS x y H Q ∨ rIn K false x y H Q
def rNotInA (K : PySem.W.Frag) : R2 := fun x y H Q => rNotInS x y H Q ∨ rIn K true x y H Q
theorem op_inA : OpR X (compareOp .In) (rInA X.K) := op_in_sign.or op_in_seq
theorem op_notInA : OpR X (compareOp .NotIn) (rNotInA X.K) := op_notIn_sign.or op_notIn_seq
end
section
variable {c : Cd}
theorem opd_or1 {r r' : R2} {f : Dop} (h : OpD c r f) : OpD c (fun x y H Q => r x y H Q ∨ r' x y H Q) f := fun B G H σ δ r1 r2 v1 v2 x y Ψ Q F h1 h2 e1 e2 hf k => .inl (h B G H σ δ r1 r2 v1 v2 x y Ψ Q F h1 h2 e1 e2 hf k)
/-- + -/
def dAdd : Dop
  | .int i, .int j, k => k (.d (.int (i + j)))
  | .str x, .str y, k => x.length + y.length ≤ 16000000 ∧ k (.d (.str (x ++ y)))
  | .lst xs, .lst ys, k => xs.length + ys.length ≤ 100000 ∧ ∀ a, k (.own a (.lst (xs ++ ys)))
  | _, _, _ => False
theorem opd_add : OpD c rAddA dAdd := by
  intro B G H σ δ r1 r2 v1 v2 x y Ψ Q F h1 h2 e1 e2 hf k
  cases x with
  | int i =>
    cases y with
    | int j =>
      have q1 := view_repH F h1 e1
      have q2 := view_repH F h2 e2
      unfold Rep at q1 q2
      exact .inl ⟨i, j, q1, q2, k (.d (.int (i + j))) _ G H hf (Ex.refl G) (Ex.refl H) F (rep_int (K := c.K) (G := G))⟩
    | _ => exact hf.elim
  | str i =>
    cases y with
    | str j =>
      have q1 := view_repH F h1 e1
      have q2 := view_repH F h2 e2
      unfold Rep at q1 q2
      exact .inr (.inl ⟨i, j, q1, q2, size16 hf.1, k (.d (.str (i ++ j))) _ G H hf.2 (Ex.refl G) (Ex.refl H) F (rep_str (K := c.K) (G := G))⟩)
    | _ => exact hf.elim
  | lst xs =>
    cases y with
    | lst ys =>
      obtain ⟨a, vs, q1, q2, q3⟩ := view_lst F h1 e1
      obtain ⟨b, ws, q4, q5, q6⟩ := view_lst F h2 e2
      refine .inr (.inr ⟨a, b, vs, ws, q1, q4, q2, q5, ?_, fun q hq => ?_⟩)
      · rw [reps_length q3, reps_length q6]
        exact Evl.sz_of hf.1
      · exact k _ _ G _ (hf.2 q) (Ex.refl G) (Ex.new hq) (F.ex (Ex.new hq)) (rv_newL F hq (reps_append q3 q6))
    | _ => exact hf.elim
  | _ => exact hf.elim
theorem opd_sub : OpD c (rI0 fun i j => .int (i - j)) (dInt0 fun i j => .int (i - j)) := opd_I0 fun G i j => rep_int
theorem opd_mul : OpD c rMulA (dInt (fun i j => CMul i j ∨ CMulX i j) fun i j => .int (i * j)) := by
  intro B G H σ δ r1 r2 v1 v2 x y Ψ Q F h1 h2 e1 e2 hf k
  cases x with
  | int i =>
    cases y with
    | int j =>
      have q1 := view_repH F h1 e1
      have q2 := view_repH F h2 e2
      unfold Rep at q1 q2
      have kk := k (.d (.int (i * j))) (.int (i * j)) G H hf.2 (Ex.refl G) (Ex.refl H) F (rep_int (K := c.K) (G := G))
      rcases hf.1 with z | z
      · exact .inl ⟨i, j, q1, q2, z, kk⟩
      · exact .inr ⟨i, j, q1, q2, z, kk⟩
    | _ => exact hf.elim
  | _ => exact hf.elim
theorem opd_fdiv : OpD c (rI CDivW fun i j => .int (i / j)) (dInt CDivW fun i j => .int (i / j)) := opd_I fun G i j => rep_int
theorem opd_mod : OpD c (rI (fun _ j => 0 < j) fun i j => .int (i % j)) (dInt (fun _ j => 0 < j) fun i j => .int (i % j)) := opd_I fun G i j => rep_int
theorem opd_pow : OpD c (rI CPow fun i j => .int (i ^ j.toNat)) (dInt CPow fun i j => .int (i ^ j.toNat)) := opd_I fun G i j => rep_int
theorem opd_shl : OpD c (rI CPow fun i j => .int (i * 2 ^ j.toNat)) (dInt CPow fun i j => .int (i * 2 ^ j.toNat)) := opd_I fun G i j => rep_int
theorem opd_shr : OpD c (rI (fun _ j => 0 ≤ j) fun i j => .int (i / 2 ^ j.toNat)) (dInt (fun _ j => 0 ≤ j) fun i j => .int (i / 2 ^ j.toNat)) := opd_I fun G i j => rep_int
theorem opd_lt : OpD c (rI0 fun i j => .bl (decide (i < j))) (dInt0 fun i j => .bl (decide (i < j))) := opd_I0 fun G i j => rep_bl
theorem opd_le : OpD c (rI0 fun i j => .bl (decide (i ≤ j))) (dInt0 fun i j => .bl (decide (i ≤ j))) := opd_I0 fun G i j => rep_bl
theorem opd_gt : OpD c (rI0 fun i j => .bl (decide (j < i))) (dInt0 fun i j => .bl (decide (j < i))) := opd_I0 fun G i j => rep_bl
theorem opd_ge : OpD c (rI0 fun i j => .bl (decide (j ≤ i))) (dInt0 fun i j => .bl (decide (j ≤ i))) := opd_I0 fun G i j => rep_bl
/-- == of scalars -/
def sEq : D → D → Option Bool
  | .int i, .int j => some (decide (i = j))
  | .str i, .str j => some (decide (i = j))
  | .bl i, .bl j => some (decide (i = j))
  | .non, .non => some true
  | .non, .int _ => some false | .int _, .non => some false | .non, .bl _ => some false | .bl _, .non => some false | .non, .str _ => some false | .str _, .non => some false
  | .int _, .str _ => some false | .str _, .int _ => some false | .bl _, .str _ => some false | .str _, .bl _ => some false
  | _, _ => none
mutual
def py : D → Option PyData
  | .non => some .none
  | .bl b => some (.bool b)
  | .int i => some (.int i)
  | .str x => some (.str x)
  | .lst xs => (pys xs).map .list
  | .tup xs => (pys xs).map .tuple
  | _ => none
def pys : List D → Option (List PyData)
  | [] => some []
  | x :: xs => match py x with
    | some d => (pys xs).map (d :: ·)
    | none => none
end
mutual
theorem py_dp {K : PySem.W.Frag} {H : Hp} : ∀ {x : D} {v : V} {d : PyData}, py x = some d → Rep K H x v → Dp K H v d
  | .non, v, d, e, h => by unfold Rep at h; unfold py at e; subst h; cases e; exact .non
  | .bl _, v, d, e, h => by unfold Rep at h; unfold py at e; subst h; cases e; exact .bl _
  | .int _, v, d, e, h => by unfold Rep at h; unfold py at e; subst h; cases e; exact .int _
  | .str _, v, d, e, h => by unfold Rep at h; unfold py at e; subst h; cases e; exact .str _
  | .lst xs, v, d, e, h => by
    unfold Rep at h
    unfold py at e
    obtain ⟨a, ys, e1, h1, h2⟩ := h
    subst e1
    cases q : pys xs with
    | none => rw [q] at e; cases e
    | some ds => rw [q] at e; cases e; exact .lst (.inl h1) (pys_dp q h2)
  | .tup xs, v, d, e, h => by
    unfold Rep at h
    unfold py at e
    obtain ⟨a, ys, e1, h1, h2⟩ := h
    subst e1
    cases q : pys xs with
    | none => rw [q] at e; cases e
    | some ds => rw [q] at e; cases e; exact .tup h1 (pys_dp q h2)
  | .ty _, v, d, e, h => by unfold py at e; cases e
  | .ro _, v, d, e, h => by unfold py at e; cases e
  | .ptr _, v, d, e, h => by unfold py at e; cases e
  | .dct _, v, d, e, h => by unfold py at e; cases e
  | .obj _ _, v, d, e, h => by unfold py at e; cases e
theorem pys_dp {K : PySem.W.Frag} {H : Hp} : ∀ {xs : List D} {vs : List V} {ds : List PyData}, pys xs = some ds → Reps K H xs vs → DpAll K H vs ds
  | [], vs, ds, e, h => by unfold Reps at h; unfold pys at e; subst h; cases e; exact .nil
  | x :: xs, vs, ds, e, h => by
    unfold Reps at h
    obtain ⟨v, vr, e1, h1, h2⟩ := h
    subst e1
    unfold pys at e
    cases q : py x with
    | none => rw [q] at e; cases e
    | some d =>
      rw [q] at e
      simp only at e
      cases q2 : pys xs with
      | none => rw [q2] at e; cases e
      | some es => rw [q2] at e; cases e; exact .cons (py_dp q h1) (pys_dp q2 h2)
end
def dEqF (f : Bool → Bool) : Dop := fun x y k => (∃ b, sEq x y = some b ∧ k (.d (.bl (f b)))) ∨ ∃ d e, py x = some d ∧ py y = some e ∧ SeqAt.shaped d = true ∧ SeqAt.shaped e = true ∧ k (.d (.bl (f (PyData.eqv d e))))
theorem sEq_scal {H : Hp} {K : PySem.W.Frag} {x y : D} {v w : V} {b : Bool} (h : sEq x y = some b) (h1 : Rep K H x v) (h2 : Rep K H y w) : scal v w = true ∧ decide (v = w) = b := by
  cases x <;> cases y <;> first | (cases h; done) | (unfold Rep at h1 h2; subst h1; subst h2; cases h; exact ⟨rfl, by simp⟩)
theorem opd_eq : OpD c (rEqA c.K) (dEqF id) := by
  intro B G H σ δ r1 r2 v1 v2 x y Ψ Q F h1 h2 e1 e2 hf k
  have q1 := view_repH F h1 e1
  have q2 := view_repH F h2 e2
  rcases hf with ⟨b, hb, kb⟩ | ⟨d, e, hd, he, sd, se, kb⟩
  · obtain ⟨z1, z2⟩ := sEq_scal hb q1 q2
    refine .inl ⟨z1, ?_⟩
    rw [z2]
    exact k _ _ G H kb (Ex.refl G) (Ex.refl H) F (rv_bl (K := c.K))
  · exact .inr ⟨d, e, py_dp hd q1, py_dp he q2, sd, se, k _ _ G H kb (Ex.refl G) (Ex.refl H) F (rv_bl (K := c.K))⟩
theorem opd_ne : OpD c (rNeA c.K) (dEqF not) := by
  intro B G H σ δ r1 r2 v1 v2 x y Ψ Q F h1 h2 e1 e2 hf k
  have q1 := view_repH F h1 e1
  have q2 := view_repH F h2 e2
  rcases hf with ⟨b, hb, kb⟩ | ⟨d, e, hd, he, sd, se, kb⟩
  · obtain ⟨z1, z2⟩ := sEq_scal hb q1 q2
    refine .inl ⟨z1, ?_⟩
    rw [z2]
    exact k _ _ G H kb (Ex.refl G) (Ex.refl H) F (rv_bl (K := c.K))
  · exact .inr ⟨d, e, py_dp hd q1, py_dp he q2, sd, se, k _ _ G H kb (Ex.refl G) (Ex.refl H) F (rv_bl (K := c.K))⟩
/-! in -/
def flatD : D → Bool
  | .non => true | .bl _ => true | .int _ => true | .str _ => true | _ => false
/-- == of flat things, as in tells them -/
def eqF : D → D → Bool
  | .int i, .int j => decide (i = j)
  | .str i, .str j => decide (i = j)
  | .bl i, .bl j => decide (i = j)
  | .non, .non => true
  | .int i, .bl b => decide (i = if b then 1 else 0)
  | .bl b, .int i => decide (i = if b then 1 else 0)
  | _, _ => false
theorem flat_rep {K : PySem.W.Frag} {H : Hp} {x : D} {v : V} (h : flatD x = true) (r : Rep K H x v) : flatV v = true := by
  cases x <;> first | (cases h; done) | (unfold Rep at r; subst r; rfl)
theorem flats_rep {K : PySem.W.Frag} {H : Hp} : ∀ {xs : List D} {vs : List V}, xs.all flatD = true → Reps K H xs vs → vs.all flatV = true
  | [], vs, _, r => by unfold Reps at r; subst r; rfl
  | x :: xs, vs, h, r => by
    unfold Reps at r
    obtain ⟨v, vr, e, h1, h2⟩ := r
    subst e
    rw [List.all_cons, Bool.and_eq_true] at h
    rw [List.all_cons, flat_rep h.1 h1, flats_rep h.2 h2]
    rfl
theorem eqF_V {K : PySem.W.Frag} {H : Hp} {x y : D} {v w : V} (hx : flatD x = true) (hy : flatD y = true) (r1 : Rep K H x v) (r2 : Rep K H y w) : eqV v w = eqF x y := by
  cases x <;> first | (cases hx; done) | (cases y <;> first | (cases hy; done) | (unfold Rep at r1 r2; subst r1; subst r2; simp [eqV, eqF, Bool.beq_eq_decide_eq, eq_comm]; done) | (unfold Rep at r1 r2; subst r1; subst r2; rename_i a b; cases a <;> simp [eqV, eqF, eq_comm]; done) | (unfold Rep at r1 r2; subst r1; subst r2; rename_i a b; cases b <;> simp [eqV, eqF, eq_comm]; done))
def inD (x : D) (xs : List D) : Bool := xs.any fun y => eqF y x
theorem inD_V {K : PySem.W.Frag} {H : Hp} {x : D} {v : V} (hx : flatD x = true) (r1 : Rep K H x v) : ∀ {ys : List D} {ws : List V}, ys.all flatD = true → Reps K H ys ws → inV v ws = inD x ys
  | [], ws, _, r => by unfold Reps at r; subst r; rfl
  | y :: ys, ws, h, r => by
    unfold Reps at r
    obtain ⟨w, wr, e, h1, h2⟩ := r
    subst e
    rw [List.all_cons, Bool.and_eq_true] at h
    have ih := inD_V hx r1 h.2 h2
    unfold inV inD at ih ⊢
    rw [List.any_cons, List.any_cons, ih, eqF_V h.1 hx h1 r1]
def dIn (f : Bool → Bool) : Dop
  | .str x, .str y, k => ∃ ch, x = ⟨#[ch]⟩ ∧ k (.d (.bl (f (decide (ch ∈ y.cps.toList)))))
  | x, .lst ys, k => flatD x = true ∧ ys.all flatD = true ∧ k (.d (.bl (f (inD x ys))))
  | x, .tup ys, k => flatD x = true ∧ ys.all flatD = true ∧ k (.d (.bl (f (inD x ys))))
  | _, _, _ => False
theorem opd_inF (neg : Bool) {r : R2} (hr : ∀ v w H Q, (∃ (ch : Nat) (z : Str), v = .str ⟨#[ch]⟩ ∧ w = .str z ∧ Q (.bl (neg ^^ decide (ch ∈ z.cps.toList))) H) ∨ rIn c.K neg v w H Q → r v w H Q) : OpD c r (dIn (neg ^^ ·)) := by
  intro B G H σ δ r1 r2 v1 v2 x y Ψ Q F h1 h2 e1 e2 hf k
  apply hr
  have q1 := view_repH F h1 e1
  cases y with
  | str z =>
    cases x with
    | str x =>
      obtain ⟨ch, ex, kk⟩ := hf
      subst ex
      have q2 := view_repH F h2 e2
      unfold Rep at q1 q2
      exact .inl ⟨ch, z, q1, q2, k _ _ G H kk (Ex.refl G) (Ex.refl H) F (rv_bl (K := c.K))⟩
    | _ => exact hf.elim
  | lst ys =>
    have hf' : flatD x = true ∧ ys.all flatD = true ∧ Ψ (.d (.bl (neg ^^ inD x ys))) := by cases x <;> exact hf
    obtain ⟨a, ws, q4, q5, q6⟩ := view_lst F h2 e2
    refine .inr ⟨a, ws, q4, .inl (.inl q5), flat_rep hf'.1 q1, flats_rep hf'.2.1 q6, ?_⟩
    rw [inD_V hf'.1 q1 hf'.2.1 (q6.mono F.exG)]
    have kk := k _ _ G H hf'.2.2 (Ex.refl G) (Ex.refl H) F (rv_bl (K := c.K))
    cases neg <;> simpa using kk
  | tup ys =>
    have hf' : flatD x = true ∧ ys.all flatD = true ∧ Ψ (.d (.bl (neg ^^ inD x ys))) := by cases x <;> exact hf
    obtain ⟨a, ws, q4, q5, q6⟩ := view_tup F h2 e2
    refine .inr ⟨a, ws, q4, .inr q5, flat_rep hf'.1 q1, flats_rep hf'.2.1 q6, ?_⟩
    rw [inD_V hf'.1 q1 hf'.2.1 (q6.mono F.exG)]
    have kk := k _ _ G H hf'.2.2 (Ex.refl G) (Ex.refl H) F (rv_bl (K := c.K))
    cases neg <;> simpa using kk
  | _ => cases x <;> exact hf.elim
theorem opd_in : OpD c (rInA c.K) (dIn (false ^^ ·)) := opd_inF false fun v w H Q h => by
  rcases h with ⟨ch, z, a, b, q⟩ | h
  · exact .inl ⟨ch, z, a, b, by simpa using q⟩
  · exact .inr h
theorem opd_notIn : OpD c (rNotInA c.K) (dIn (true ^^ ·)) := opd_inF true fun v w H Q h => by
  rcases h with ⟨ch, z, a, b, q⟩ | h
  · exact .inl ⟨ch, z, a, b, by simpa using q⟩
  · exact .inr h
/-! subscripts -/
def dIx : Dop
  | .lst xs, .int i, k => ∃ x, atI xs i = some x ∧ k (.d x)
  | .tup xs, .int i, k => ∃ x, atI xs i = some x ∧ k (.d x)
  | .ro xs, .int i, k => ∃ x, atI xs i = some x ∧ k (.d x)
  | .str z, .int i, k => z.length ≤ 16000000 ∧ ∃ ch, atI z.cps.toList i = some ch ∧ k (.d (.str ⟨#[ch]⟩))
  | _, _, _ => False
theorem reps_atI {K : PySem.W.Frag} {G : Hp} {xs : List D} {vs : List V} {i : Int} {x : D} (h : Reps K G xs vs) (e : atI xs i = some x) : ∃ v, atI vs i = some v ∧ Rep K G x v := by
  unfold atI at e ⊢
  rw [reps_length h]
  cases q : ixN xs.length i with
  | none => rw [q] at e; cases e
  | some j =>
    rw [q] at e
    exact reps_get h e
theorem opd_ix : OpD c (rIx c.K) dIx := by
  intro B G H σ δ r1 r2 v1 v2 x y Ψ Q F h1 h2 e1 e2 hf k
  cases y with
  | int i =>
    have q2 := view_repH F h2 e2
    unfold Rep at q2
    cases x with
    | lst xs =>
      obtain ⟨z, hz, kk⟩ := hf
      obtain ⟨a, vs, q3, q4, q5⟩ := view_lst F h1 e1
      obtain ⟨v, q6, q7⟩ := reps_atI q5 hz
      exact .inl ⟨a, vs, i, v, q3, q2, .inl q4, q6, k _ _ G H kk (Ex.refl G) (Ex.refl H) F q7⟩
    | ro xs =>
      obtain ⟨z, hz, kk⟩ := hf
      obtain ⟨a, vs, q3, q4, q5⟩ := view_ro F h1 e1
      obtain ⟨v, q6, q7⟩ := reps_atI q5 hz
      exact .inl ⟨a, vs, i, v, q3, q2, q4, q6, k _ _ G H kk (Ex.refl G) (Ex.refl H) F q7⟩
    | tup xs =>
      obtain ⟨z, hz, kk⟩ := hf
      obtain ⟨a, vs, q3, q4, q5⟩ := view_tup F h1 e1
      obtain ⟨v, q6, q7⟩ := reps_atI q5 hz
      exact .inr (.inl ⟨a, vs, i, v, q3, q2, q4, q6, k _ _ G H kk (Ex.refl G) (Ex.refl H) F q7⟩)
    | str z =>
      obtain ⟨hl, ch, hc, kk⟩ := hf
      have q1 := view_repH F h1 e1
      unfold Rep at q1
      exact .inr (.inr ⟨z, i, ch, q1, q2, size16 hl, hc, k _ _ G H kk (Ex.refl G) (Ex.refl H) F (rep_str (K := c.K) (G := G))⟩)
    | _ => exact hf.elim
  | _ => cases x <;> exact hf.elim
end
end DL

/-! DL5: built-ins and methods, by data. -/
namespace DL
open PySem PySem.Spec PyProof.Rows L2
open Evl (Ex)
section
variable {X : Cx}
def rMulS : R2 := fun x y H Q => ∃ (z : Str) (n : Int), x = .str z ∧ y = .int n ∧ (z.length ≤ 1000 ∧ n ≤ 4000 ∧ -4000 ≤ n) ∧ Q (.str (Txt.mul z n)) H
theorem mulOk_small {z : Str} {n : Int} (h : z.length ≤ 1000 ∧ n ≤ 4000 ∧ -4000 ≤ n) : MulOk z n := by
  obtain ⟨h1, h2, h3⟩ := h
  refine ⟨?_, fun h4 _ => ?_, fun h4 _ => ?_⟩
  · rw [decide_eq_false (by omega), decide_eq_false (by omega)]; rfl
  · have : (2 ^ 63 - 1) / (4000 : Int) ≤ (2 ^ 63 - 1) / n := by
      have hn : 0 < n := by omega
      exact (Int.le_ediv_iff_mul_le hn).mpr (Int.le_trans (Int.mul_le_mul_of_nonneg_left h2 (by decide)) (by decide))
    have e : (2 ^ 63 - 1) / (4000 : Int) = 2305843009213693 := by decide
    omega
  · have h5 : z.length * n.toNat ≤ 1000 * 4000 := Nat.mul_le_mul h1 (by omega)
    unfold Builtin.Str.tooLong
    rw [decide_eq_false]
    have := sizeLine_eq
    omega
theorem op_mulS : OpR X (binaryOp .Mult) rMulS := by
  intro pins s σ H x y v u Q I rx ry h
  obtain ⟨z, n, rfl, rfl, hz, q⟩ := h
  obtain ⟨t, rfl⟩ := rx
  obtain ⟨t', rfl⟩ := ry
  exact SB.mul (mulOk_small hz) fun t' k => ⟨.str _, H, I.tok _, ⟨_, rfl⟩, q⟩
end
section
variable {c : Cd} {p : Bool} {δ : List Sl} {te ta tb : TE} {Φ : R → List Sl → Prop}
def rMulB : R2 := fun x y H Q => rMulA x y H Q ∨ rMulS x y H Q
theorem op_mulB {X : Cx} : OpR X (binaryOp .Mult) rMulB := op_mulA.or op_mulS
def dMul : Dop
  | .int i, .int j, k => (CMul i j ∨ CMulX i j) ∧ k (.d (.int (i * j)))
  | .str z, .int n, k => (z.length ≤ 1000 ∧ n ≤ 4000 ∧ -4000 ≤ n) ∧ k (.d (.str (Txt.mul z n)))
  | _, _, _ => False
theorem opd_mulB : OpD c rMulB dMul := by
  intro B G H σ δ r1 r2 v1 v2 x y Ψ Q F h1 h2 e1 e2 hf k
  cases y with
  | int j =>
    have q2 := view_repH F h2 e2
    unfold Rep at q2
    cases x with
    | int i =>
      have q1 := view_repH F h1 e1
      unfold Rep at q1
      have kk := k (.d (.int (i * j))) (.int (i * j)) G H hf.2 (Ex.refl G) (Ex.refl H) F (rep_int (K := c.K) (G := G))
      rcases hf.1 with z | z
      · exact .inl (.inl ⟨i, j, q1, q2, z, kk⟩)
      · exact .inl (.inr ⟨i, j, q1, q2, z, kk⟩)
    | str z =>
      have q1 := view_repH F h1 e1
      unfold Rep at q1
      exact .inr ⟨z, j, q1, q2, hf.1, k _ _ G H hf.2 (Ex.refl G) (Ex.refl H) F (rep_str (K := c.K) (G := G))⟩
    | _ => exact hf.elim
  | _ => cases x <;> exact hf.elim
/-! a unary operation -/
theorem we_neg (h : WE c p ta δ fun r δ1 => ∃ i, r = .d (.int i) ∧ Φ (.d (.int (-i))) δ1) : WE c p (tUn (rU fun i => .int (-i)) ta) δ Φ := by
  intro B G H σ Q F x k
  refine h B G H σ _ F x fun r1 δ1 v1 G1 H1 w1 e1 F1 rv1 p1 => ?_
  obtain ⟨i, e, w⟩ := w1
  subst e
  have e2 : v1 = .int i := by have h : Rep c.K G1 (.int i) v1 := rv1; unfold Rep at h; exact h
  exact ⟨i, e2, k _ δ1 _ G1 H1 w e1 F1 (rep_int (K := c.K) (G := G1)) p1⟩
/-! is None, is True -/
def isNon : D → Bool
  | .non => true
  | _ => false
theorem rep_non_iff {K : PySem.W.Frag} {G : Hp} {x : D} {v : V} (h : Rep K G x v) : decide (v = .non) = isNon x := by
  cases x <;> first | (unfold Rep at h; subst h; rfl) | (unfold Rep at h; obtain ⟨a, _, e, _⟩ := h; subst e; rfl) | (unfold Rep at h; obtain ⟨a, _, _, e, _⟩ := h; subst e; rfl)
def dIsN (f : Bool → Bool) : Dop := fun x y k => y = .non ∧ k (.d (.bl (f (isNon x))))
theorem opd_isN : OpD c (fun x y H Q => y = .non ∧ Q (.bl (decide (x = .non))) H) (dIsN id) := opd_H fun H v1 v2 x y Ψ Q h1 h2 hf k => by
  obtain ⟨e, w⟩ := hf
  subst e
  unfold Rep at h2
  refine ⟨h2, ?_⟩
  rw [rep_non_iff h1]
  exact k _ _ w fun G => rep_bl
theorem opd_notN : OpD c (fun x y H Q => y = .non ∧ Q (.bl (!decide (x = .non))) H) (dIsN not) := opd_H fun H v1 v2 x y Ψ Q h1 h2 hf k => by
  obtain ⟨e, w⟩ := hf
  subst e
  unfold Rep at h2
  refine ⟨h2, ?_⟩
  rw [rep_non_iff h1]
  exact k _ _ w fun G => rep_bl
def dIsB (f : Bool → Bool) : Dop
  | .bl a, .bl b, k => k (.d (.bl (f (decide (a = b)))))
  | _, _, _ => False
theorem opd_isB : OpD c rIsB (dIsB id) := opd_H fun H v1 v2 x y Ψ Q h1 h2 hf k => by
  cases x with
  | bl a =>
    cases y with
    | bl b =>
      unfold Rep at h1 h2
      exact ⟨a, b, h1, h2, k _ _ hf fun G => rep_bl⟩
    | _ => exact hf.elim
  | _ => exact hf.elim
theorem opd_notB : OpD c rNotB (dIsB not) := opd_H fun H v1 v2 x y Ψ Q h1 h2 hf k => by
  cases x with
  | bl a =>
    cases y with
    | bl b =>
      unfold Rep at h1 h2
      exact ⟨a, b, h1, h2, k _ _ hf fun G => rep_bl⟩
    | _ => exact hf.elim
  | _ => exact hf.elim
/-! ### slices -/
def WO (c : Cd) (p : Bool) (to : TO) (δ : List Sl) (Φ : Option Int → List Sl → Prop) : Prop :=
  ∀ (B G H : Hp) (σ : St) (Q : Option Int → Hp → Prop), Frame c.K B G H σ δ → c.xr B G →
    (∀ o δ' G' H', Φ o δ' → Ex G G' → Frame c.K B G' H' σ δ' → (p = true → δ' = δ ∧ Ex H H') → Q o H') → to σ H Q
theorem wo_no {Ψ : Option Int → List Sl → Prop} (h : Ψ none δ) : WO c p tNoPart δ Ψ := fun B G H σ Q F x k => k none δ G H h (Ex.refl G) F fun _ => ⟨rfl, Ex.refl H⟩
theorem wo_part {Ψ : Option Int → List Sl → Prop} (h : WE c p te δ fun r δ1 => ∃ i, r = .d (.int i) ∧ Ψ (some i) δ1) : WO c p (tPart te) δ Ψ := by
  intro B G H σ Q F x k
  refine h B G H σ _ F x fun r1 δ1 v1 G1 H1 w1 e1 F1 rv1 p1 => ?_
  obtain ⟨i, e, w⟩ := w1
  subst e
  have e2 : v1 = .int i := by have h : Rep c.K G1 (.int i) v1 := rv1; unfold Rep at h; exact h
  exact ⟨i, e2, k _ δ1 G1 H1 w e1 F1 p1⟩
def rSlA (K : PySem.W.Frag) : V → Option Int → Option Int → Hp → VK → Prop := fun x lo hi H Q => rSlL K x lo hi H Q ∨ rSlS x lo hi H Q
theorem sl_A {X : Cx} : L2.SlR X (rSlA X.K) := sl_list.or sl_str
def cutD (xs : List D) (lo hi : Option Int) : List D := (xs.drop (HT.sIx xs.length 0 lo)).take (HT.sIx xs.length xs.length hi - HT.sIx xs.length 0 lo)
theorem reps_cut {K : PySem.W.Frag} {G : Hp} {xs : List D} {vs : List V} {lo hi : Option Int} (h : Reps K G xs vs) : Reps K G (cutD xs lo hi) (cutV vs lo hi) := by
  unfold cutD cutV
  rw [reps_length h]
  exact reps_take _ (reps_drop _ h)
def dSl : D → Option Int → Option Int → (R → Prop) → Prop
  | .lst xs, lo, hi, k => ∀ a, k (.own a (.lst (cutD xs lo hi)))
  | .str z, lo, hi, k => z.length ≤ 16000000 ∧ k (.d (.str (cutS z lo hi)))
  | _, _, _, _ => False
theorem we_sl {to th : TO} (h : WE c p te δ fun r1 δ1 => WO c p to δ1 fun lo δ2 => WO c p th δ2 fun hi δ3 => ∃ x, view δ3 (frz r1) = some x ∧ dSl x lo hi fun r => Φ r δ3) : WE c p (tSl (rSlA c.K) te to th) δ Φ := by
  intro B G H σ Q F x k
  refine h B G H σ _ F x fun r1 δ1 v1 G1 H1 w1 e1 F1 rv1 p1 => ?_
  obtain ⟨G1', e1', F1', rw1⟩ := rv1.weak F1
  refine w1 B G1' H1 σ _ F1' (c.mono _ _ _ (e1.trans e1') x) fun lo δ2 G2 H2 w2 e2 F2 p2 => ?_
  refine w2 B G2 H2 σ _ F2 (c.mono _ _ _ ((e1.trans e1').trans e2) x) fun hi δ3 G3 H3 w3 e3 F3 p3 => ?_
  obtain ⟨y, hy, hd⟩ := w3
  have eG := (e1.trans e1').trans (e2.trans e3)
  have rw3 := rw1.mono (e2.trans e3)
  have pp : p = true → δ3 = δ ∧ Ex H H3 := fun hp => ⟨((p3 hp).1.trans (p2 hp).1).trans (p1 hp).1, ((p1 hp).2.trans (p2 hp).2).trans (p3 hp).2⟩
  cases y with
  | lst xs =>
    obtain ⟨a, vs, q1, q2, q3⟩ := view_lst F3 rw3 hy
    exact .inl ⟨a, vs, q1, .inl q2, fun q hq => k _ δ3 _ G3 _ (hd q) eG (F3.ex (Ex.new hq)) (rv_newL F3 hq (reps_cut q3)) fun hp => ⟨(pp hp).1, (pp hp).2.trans (Ex.new hq)⟩⟩
  | str z =>
    have q1 := view_repH F3 rw3 hy
    unfold Rep at q1
    exact .inr ⟨z, q1, size16 hd.1, k _ δ3 _ G3 H3 hd.2 eG F3 (rep_str (K := c.K) (G := G3)) pp⟩
  | _ => exact hd.elim
/-! ### built-ins -/
theorem cad_one {r : List V → Hp → VK → Prop} {f : D → (R → Prop) → Prop} (h : ∀ (B G H : Hp) (σ : St) (δ : List Sl) (r1 : R) (v : V) (x : D) (Ψ : R → Prop) (Q : VK), Frame c.K B G H σ δ → RW c.K G r1 v → view δ r1 = some x → f x Ψ →
    (∀ r v G' H', Ψ r → Ex G G' → Ex H H' → Frame c.K B G' H' σ δ → RV c.K B G' H' δ r v → Q v H') → r [v] H Q) : CaD c r fun ds k => ∃ x, ds = [x] ∧ f x k :=
  cad_1 (fun ds Ψ ⟨x, e, _⟩ => by subst e; rfl) fun B G H σ δ r1 v x Ψ Q F h1 h2 ⟨y, e, hf⟩ k => by cases e; exact h B G H σ δ r1 v x Ψ Q F h1 h2 hf k
theorem cad_two {r : List V → Hp → VK → Prop} {f : D → D → (R → Prop) → Prop} (h : ∀ (B G H : Hp) (σ : St) (δ : List Sl) (r1 r2 : R) (v w : V) (x y : D) (Ψ : R → Prop) (Q : VK), Frame c.K B G H σ δ → RW c.K G r1 v → RW c.K G r2 w → view δ r1 = some x → view δ r2 = some y → f x y Ψ →
    (∀ r v G' H', Ψ r → Ex G G' → Ex H H' → Frame c.K B G' H' σ δ → RV c.K B G' H' δ r v → Q v H') → r [v, w] H Q) : CaD c r fun ds k => ∃ x y, ds = [x, y] ∧ f x y k :=
  cad_2 (fun ds Ψ ⟨x, y, e, _⟩ => by subst e; rfl) fun B G H σ δ r1 r2 v w x y Ψ Q F h1 h2 h3 h4 ⟨x', y', e, hf⟩ k => by cases e; exact h B G H σ δ r1 r2 v w x y Ψ Q F h1 h2 h3 h4 hf k
/-- len -/
def lenD : D → Option Nat
  | .str z => some z.length
  | .lst xs => some xs.length
  | .tup xs => some xs.length
  | .ro xs => some xs.length
  | _ => none
def rLenA (K : PySem.W.Frag) : List V → Hp → VK → Prop := fun xs H Q => ∃ x n, xs = [x] ∧ LenV K x H n ∧ Q (.int n) H
theorem cad_len : CaD c (rLenA c.K) fun ds k => ∃ x, ds = [x] ∧ strOk x ∧ ∃ n, lenD x = some n ∧ k (.d (.int (n : Int))) := cad_one fun B G H σ δ r1 v x Ψ Q F h1 e1 hf k => by
  obtain ⟨hs, n, hn, kk⟩ := hf
  refine ⟨v, n, rfl, ?_, k _ _ G H kk (Ex.refl G) (Ex.refl H) F (rep_int (K := c.K) (G := G))⟩
  cases x with
  | str z => have q := view_repH F h1 e1; unfold Rep at q; subst q; cases hn; exact ⟨size16 hs, rfl⟩
  | lst xs =>
    obtain ⟨a, vs, q1, q2, q3⟩ := view_lst F h1 e1
    subst q1
    cases hn
    exact .inl ⟨vs, .inl q2, (reps_length q3).symm⟩
  | ro xs =>
    obtain ⟨a, vs, q1, q2, q3⟩ := view_ro F h1 e1
    subst q1
    cases hn
    exact .inl ⟨vs, q2, (reps_length q3).symm⟩
  | tup xs =>
    obtain ⟨a, vs, q1, q2, q3⟩ := view_tup F h1 e1
    subst q1
    cases hn
    exact .inr ⟨vs, q2, (reps_length q3).symm⟩
  | _ => cases hn
def rMax2 : List V → Hp → VK → Prop := fun xs H Q => ∃ i j, xs = [.int i, .int j] ∧ Q (.int (if j > i then j else i)) H
def rMin2 : List V → Hp → VK → Prop := fun xs H Q => ∃ i j, xs = [.int i, .int j] ∧ Q (.int (if j < i then j else i)) H
def dInt2 (g : Int → Int → Int) : D → D → (R → Prop) → Prop
  | .int i, .int j, k => k (.d (.int (g i j)))
  | _, _, _ => False
theorem cad_max2 : CaD c rMax2 fun ds k => ∃ x y, ds = [x, y] ∧ dInt2 (fun i j => if j > i then j else i) x y k := cad_two fun B G H σ δ r1 r2 v w x y Ψ Q F h1 h2 e1 e2 hf k => by
  cases x with
  | int i =>
    cases y with
    | int j =>
      have q1 := view_repH F h1 e1
      have q2 := view_repH F h2 e2
      unfold Rep at q1 q2
      subst q1 q2
      exact ⟨i, j, rfl, k _ _ G H hf (Ex.refl G) (Ex.refl H) F (rep_int (K := c.K) (G := G))⟩
    | _ => exact hf.elim
  | _ => exact hf.elim
theorem cad_min2 : CaD c rMin2 fun ds k => ∃ x y, ds = [x, y] ∧ dInt2 (fun i j => if j < i then j else i) x y k := cad_two fun B G H σ δ r1 r2 v w x y Ψ Q F h1 h2 e1 e2 hf k => by
  cases x with
  | int i =>
    cases y with
    | int j =>
      have q1 := view_repH F h1 e1
      have q2 := view_repH F h2 e2
      unfold Rep at q1 q2
      subst q1 q2
      exact ⟨i, j, rfl, k _ _ G H hf (Ex.refl G) (Ex.refl H) F (rep_int (K := c.K) (G := G))⟩
    | _ => exact hf.elim
  | _ => exact hf.elim
/-- int(..): of an int, a bool, a text -/
def rIntA : List V → Hp → VK → Prop := fun xs H Q => ((∃ i, xs = [.int i] ∧ Q (.int i) H) ∨ ∃ k, xs = [.bl k] ∧ Q (.int (if k then 1 else 0)) H) ∨ ∃ a n, xs = [.str a] ∧ PySem.intText? a = some n ∧ a.length ≤ 640 ∧ Q (.int n) H
theorem call_intA {X : Cx} : CallR X (.type "int") rIntA := call_int1.or call_int_str
def dIntC : D → (R → Prop) → Prop
  | .int i, k => k (.d (.int i))
  | .bl b, k => k (.d (.int (if b then 1 else 0)))
  | .str a, k => ∃ n, PySem.intText? a = some n ∧ a.length ≤ 640 ∧ k (.d (.int n))
  | _, _ => False
theorem cad_int : CaD c rIntA fun ds k => ∃ x, ds = [x] ∧ dIntC x k := cad_one fun B G H σ δ r1 v x Ψ Q F h1 e1 hf k => by
  have q := view_repH F h1 e1
  cases x with
  | int i => unfold Rep at q; subst q; exact .inl (.inl ⟨i, rfl, k _ _ G H hf (Ex.refl G) (Ex.refl H) F (rep_int (K := c.K) (G := G))⟩)
  | bl i => unfold Rep at q; subst q; exact .inl (.inr ⟨i, rfl, k _ _ G H hf (Ex.refl G) (Ex.refl H) F (rep_int (K := c.K) (G := G))⟩)
  | str a =>
    unfold Rep at q
    subst q
    obtain ⟨n, h3, h4, kk⟩ := hf
    exact .inr ⟨a, n, rfl, h3, h4, k _ _ G H kk (Ex.refl G) (Ex.refl H) F (rep_int (K := c.K) (G := G))⟩
  | _ => exact hf.elim
def rStrI : List V → Hp → VK → Prop := fun xs H Q => ∃ i, xs = [.int i] ∧ i.natAbs.log2 < 1920 ∧ Q (.str (toString i)) H
theorem cad_str : CaD c rStrI fun ds k => ∃ x, ds = [x] ∧ ∃ i, x = .int i ∧ i.natAbs.log2 < 1920 ∧ k (.d (.str (toString i))) := cad_one fun B G H σ δ r1 v x Ψ Q F h1 e1 hf k => by
  have q := view_repH F h1 e1
  obtain ⟨i, e, h2, kk⟩ := hf
  subst e
  unfold Rep at q
  subst q
  exact ⟨i, rfl, h2, k _ _ G H kk (Ex.refl G) (Ex.refl H) F (rep_str (K := c.K) (G := G))⟩
/-- all, any of a list of truths -/
def blsD : List D → Option (List Bool)
  | [] => some []
  | .bl b :: r => (blsD r).map (b :: ·)
  | _ :: _ => none
theorem bls_rep {K : PySem.W.Frag} {G : Hp} : ∀ {xs : List D} {bs : List Bool} {vs : List V}, blsD xs = some bs → Reps K G xs vs → vs = bs.map V.bl
  | [], bs, vs, e, h => by cases e; unfold Reps at h; exact h
  | x :: xs, bs, vs, e, h => by
    unfold Reps at h
    obtain ⟨v, vr, e1, h1, h2⟩ := h
    cases x with
    | bl b =>
      unfold blsD at e
      cases q : blsD xs with
      | none => rw [q] at e; cases e
      | some cs =>
        rw [q] at e
        cases e
        unfold Rep at h1
        rw [e1, h1, bls_rep q h2]
        rfl
    | _ => cases e
theorem blsD_map (bs : List Bool) : blsD (bs.map D.bl) = some bs := by
  induction bs with
  | nil => rfl
  | cons b bs ih =>
    show (blsD (bs.map D.bl)).map (b :: ·) = _
    rw [ih]
    rfl
theorem cad_all : CaD c (rAll c.K) fun ds k => ∃ x, ds = [x] ∧ ∃ xs bs, x = .lst xs ∧ blsD xs = some bs ∧ k (.d (.bl (bs.all id))) := cad_one fun B G H σ δ r1 v x Ψ Q F h1 e1 hf k => by
  obtain ⟨xs, bs, e, hb, kk⟩ := hf
  subst e
  obtain ⟨a, vs, q1, q2, q3⟩ := view_lst F h1 e1
  subst q1
  have e3 := bls_rep hb q3
  subst e3
  exact ⟨a, bs, rfl, .inl q2, k _ _ G H kk (Ex.refl G) (Ex.refl H) F (rv_bl (K := c.K))⟩
theorem cad_any : CaD c (rAny c.K) fun ds k => ∃ x, ds = [x] ∧ ∃ xs bs, x = .lst xs ∧ blsD xs = some bs ∧ k (.d (.bl (bs.any id))) := cad_one fun B G H σ δ r1 v x Ψ Q F h1 e1 hf k => by
  obtain ⟨xs, bs, e, hb, kk⟩ := hf
  subst e
  obtain ⟨a, vs, q1, q2, q3⟩ := view_lst F h1 e1
  subst q1
  have e3 := bls_rep hb q3
  subst e3
  exact ⟨a, bs, rfl, .inl q2, k _ _ G H kk (Ex.refl G) (Ex.refl H) F (rv_bl (K := c.K))⟩
/-- list(..) of a list, a tuple -/
def rListA (K : PySem.W.Frag) : List V → Hp → VK → Prop := fun xs H Q => ∃ p ys, xs = [.ref p] ∧ (SqL K H p ys ∨ SqT K H p ys) ∧ ∀ l, H l = none → Q (.ref l) (upd H l (.lst ys))
def seqD : D → Option (List D)
  | .lst xs => some xs
  | .tup xs => some xs
  | _ => none
theorem cad_list : CaD c (rListA c.K) fun ds k => ∃ x, ds = [x] ∧ ∃ xs, seqD x = some xs ∧ ∀ a, k (.own a (.lst xs)) := cad_one fun B G H σ δ r1 v x Ψ Q F h1 e1 hf k => by
  obtain ⟨xs, e, kk⟩ := hf
  cases x with
  | lst ys =>
    cases e
    obtain ⟨a, vs, q1, q2, q3⟩ := view_lst F h1 e1
    subst q1
    exact ⟨a, vs, rfl, .inl (.inl q2), fun l hl => k _ _ G _ (kk l) (Ex.refl G) (Ex.new hl) (F.ex (Ex.new hl)) (rv_newL F hl q3)⟩
  | tup ys =>
    cases e
    obtain ⟨a, vs, q1, q2, q3⟩ := view_tup F h1 e1
    subst q1
    exact ⟨a, vs, rfl, .inr q2, fun l hl => k _ _ G _ (kk l) (Ex.refl G) (Ex.new hl) (F.ex (Ex.new hl)) (rv_newL F hl q3)⟩
  | _ => cases e
/-- tuple(..) of a list, a tuple -/
def rTupA (K : PySem.W.Frag) : List V → Hp → VK → Prop := fun xs H Q => ∃ p ys, xs = [.ref p] ∧ ((SqL K H p ys ∧ ∀ l, H l = none → Q (.ref l) (upd H l (.tup ys))) ∨ (SqT K H p ys ∧ Q (.ref p) H))
theorem rep_tup {K : PySem.W.Frag} {G : Hp} {a : Addr} {xs : List D} {vs : List V} (h : SqT K G a vs) (r : Reps K G xs vs) : Rep K G (.tup xs) (.ref a) := by
  unfold Rep
  exact ⟨a, vs, rfl, h, r⟩
theorem cad_tuple : CaD c (rTupA c.K) fun ds k => ∃ x, ds = [x] ∧ ∃ xs, seqD x = some xs ∧ k (.d (.tup xs)) := cad_one fun B G H σ δ r1 v x Ψ Q F h1 e1 hf k => by
  obtain ⟨xs, e, kk⟩ := hf
  cases x with
  | lst ys =>
    cases e
    obtain ⟨a, vs, q1, q2, q3⟩ := view_lst F h1 e1
    subst q1
    refine ⟨a, vs, rfl, .inl ⟨.inl q2, fun l hl => ?_⟩⟩
    have hG := (F.fresh hl).2.1
    exact k _ _ (upd G l (.tup vs)) _ kk (Ex.new hG) (Ex.new hl) (F.laid hl) (rep_newT hG q3)
  | tup ys =>
    cases e
    cases r1 with
    | d y =>
      have e' : y = .tup xs := Option.some.inj e1
      subst e'
      obtain ⟨a, vs, q1, q2, q3⟩ := view_tup F (r := .d (.tup xs)) (δ := δ) h1 rfl
      subst q1
      exact ⟨a, vs, rfl, .inr ⟨q2, k _ _ G H kk (Ex.refl G) (Ex.refl H) F h1⟩⟩
    | own a y => exact h1.elim
    | bor i a =>
      obtain ⟨ov, _, _, h3⟩ := F.get (view_bor' e1)
      exact h3.elim
  | _ => cases e
/-! isinstance -/
def tyD : D → Option String
  | .non => some "NoneType" | .bl _ => some "bool" | .int _ => some "int" | .str _ => some "str" | .lst _ => some "list" | .tup _ => some "tuple" | .dct _ => some "dict" | _ => none
theorem tyD_ok {B G H : Hp} {σ : St} {δ : List Sl} {r1 : R} {v : V} {x : D} {T : String} (F : Frame c.K B G H σ δ) (h1 : RW c.K G r1 v) (e1 : view δ r1 = some x) (h : tyD x = some T) : TyX c.K H v (.type T) := by
  cases x with
  | non => have q := view_repH F h1 e1; unfold Rep at q; subst q; cases h; exact .base .non
  | bl b => have q := view_repH F h1 e1; unfold Rep at q; subst q; cases h; exact .base (.bl b)
  | int b => have q := view_repH F h1 e1; unfold Rep at q; subst q; cases h; exact .base (.int b)
  | str b => have q := view_repH F h1 e1; unfold Rep at q; subst q; cases h; exact .base (.str b)
  | lst xs =>
    obtain ⟨a, vs, q1, q2, q3⟩ := view_lst F h1 e1
    subst q1
    cases h
    rcases q2 with q2 | ⟨o, q2⟩
    · exact .base (.lst q2)
    · exact .base (.frz q2)
  | tup xs =>
    obtain ⟨a, vs, q1, q2, q3⟩ := view_tup F h1 e1
    subst q1
    cases h
    rcases q2 with (q2 | ⟨o, q2⟩) | ⟨o, its, n, hk, hc, _⟩
    · exact .base (.tup q2)
    · exact .fTuple q2
    · exact .kTuple hk hc
  | dct xs =>
    obtain ⟨a, vs, q1, q2, q3⟩ := view_dct F h1 e1
    subst q1
    cases h
    rcases q2 with q2 | ⟨o, q2⟩
    · exact .base (.dK q2)
    · exact .fDict q2
  | _ => cases h
/-- which of the built-in types a thing is of: decided by their names -/
def isTy (a b : String) : Option Bool := kitB a b
def isiD (x : D) : D → Option Bool
  | .ty b => (tyD x).bind fun a => kitB a b
  | _ => none
def anyTy (x : D) : List D → Option Bool
  | [] => some false
  | y :: ys => match isiD x y with
    | some true => some true
    | some false => anyTy x ys
    | none => none
def rIsiA (K : PySem.W.Frag) : List V → Hp → VK → Prop := fun xs H Q => rIsi K xs H Q ∨ rIsiT K xs H Q
theorem call_isiA {X : Cx} : CallR X (.builtin "isinstance") (rIsiA X.K) := call_isi.or call_isiT
theorem cad_isi : CaD c (rIsiA c.K) fun ds k => ∃ x y, ds = [x, y] ∧ ∃ b, isiD x y = some b ∧ k (.d (.bl b)) := cad_two fun B G H σ δ r1 r2 v w x y Ψ Q F h1 h2 e1 e2 hf k => by
  obtain ⟨b, hb, kk⟩ := hf
  cases y with
  | ty n =>
    have q2 := view_repH F h2 e2
    unfold Rep at q2
    subst q2
    cases ht : tyD x with
    | none => unfold isiD at hb; rw [ht] at hb; cases hb
    | some T =>
      unfold isiD at hb
      rw [ht] at hb
      exact .inl ⟨v, .ty n, .type T, .type n, b, rfl, .ty n, tyD_ok F h1 e1 ht, kit_ty hb, k _ _ G H kk (Ex.refl G) (Ex.refl H) F (rv_bl (K := c.K))⟩
  | _ => cases hb
end
end DL

/-! DL6: what changes a list or a dict of one's own; methods of texts; displays of dicts; a walk over a list, a tuple or a text. -/
namespace DL
open PySem PySem.Spec PyProof.Rows L2
open Evl (Ex)
section
variable {X : Cx} {tg : Expr}
/-- for .. in e: e a list, a tuple or a text -/
def iAny (K : PySem.W.Frag) (te : TE) : TI := fun σ H R => te σ H fun x H1 => (∃ a, x = .ref a ∧ (∃ xs, SqL K H1 a xs) ∧ R (Itl K a) H1) ∨ (∃ a, x = .ref a ∧ (∃ xs, SqT K H1 a xs) ∧ R (Itt K a) H1) ∨ ∃ z, x = .str z ∧ R (Its z) H1
theorem pi_any {l : Expr} {tl : TE} (hl : PE X l tl) : PI X tg l (iAny X.K tl) := by
  refine ⟨fun pins s σ H R I h => ?_⟩
  let PX : PI X tg l (iAny X.K tl) → True := fun _ => trivial
  refine thn (hl.run pins s σ H _ I h) fun v s1 ⟨x, H1, I1, r1, q1⟩ => ?_
  rcases q1 with ⟨a, e, ⟨xs, hq⟩, q⟩ | ⟨a, e, ⟨xs, hq⟩, q⟩ | ⟨z, e, q⟩
  · subst e
    cases r1
    obtain ⟨its, rv, p, hz⟩ := I1.list hq
    refine wpAny_pyIter_list p.isList ?_
    refine ⟨s1.heap.objs.size, [s1.heap.objs.size], _, _, H1, rfl, I1.kept (t' := s1.toks) fun b o e => Heap.get?_push_of_some _ e, turn_list a _, ⟨_, Heap.get?_push_size _ rfl, rfl, rfl⟩, fun b hb => ?_, q⟩
    have e : b = s1.heap.objs.size := by simpa using hb
    subst e
    exact I1.fpOk (Nat.le_refl _) (I1.hok.fresh (Nat.le_refl _))
  · subst e
    cases r1
    obtain ⟨its, rv, p, hz⟩ := I1.tuple hq
    refine wpAny_pyIter_tuple (show s1.heap.IsTuple a its.toArray from p) ?_
    refine ⟨s1.heap.objs.size, [s1.heap.objs.size], _, _, H1, rfl, I1.kept (t' := s1.toks) fun b o e => Heap.get?_push_of_some _ e, turn_tuple a _, ⟨_, Heap.get?_push_size _ rfl, rfl, rfl⟩, fun b hb => ?_, q⟩
    have e : b = s1.heap.objs.size := by simpa using hb
    subst e
    exact I1.fpOk (Nat.le_refl _) (I1.hok.fresh (Nat.le_refl _))
  · subst e
    obtain ⟨t, rfl⟩ := r1
    cases ha : z.cps.all (· < 128)
    · exact wpAny_pyIter_wide ha (pi_one (tk := s1.toks) I1 _ (turn_str _ z t "str_iterator" (.inr rfl)) ⟨_, Heap.get?_push_size _ rfl, rfl, rfl⟩ q)
    · exact wpAny_pyIter_ascii ha (pi_one (tk := s1.toks) I1 _ (turn_str _ z t "str_ascii_iterator" (.inl rfl)) ⟨_, Heap.get?_push_size _ rfl, rfl, rfl⟩ q)
end
section
variable {c : Cd} {p : Bool} {δ : List Sl} {te ta tb : TE} {E : En} {t u : TS} {tt : TT} {g : TG}
/-- the things that a list, a tuple, a text hands on -/
def itemsD : D → Option (List D)
  | .lst xs => some xs
  | .tup xs => some xs
  | .str z => some (signsD z)
  | _ => none
theorem wi_any {Φ : List D → List Sl → Prop} (h : WE c p te δ fun r δ1 => ∃ y ds, frz r = .d y ∧ itemsD y = some ds ∧ Φ ds δ1) : WI c p (iAny c.K te) δ Φ := by
  intro B G H σ R F x k
  refine h B G H σ _ F x fun r δ1 v G1 H1 w e1 F1 rv p1 => ?_
  obtain ⟨y, ds, e, hi, w⟩ := w
  obtain ⟨G1', e1', F1', rw1⟩ := rv.weak F1
  rw [e] at rw1
  cases y with
  | lst ys =>
    cases hi
    have rw2 : Rep c.K G1' (.lst ds) v := rw1
    unfold Rep at rw2
    obtain ⟨a, xs, e2, h1, h2⟩ := rw2
    refine .inl ⟨a, e2, ⟨xs, .inl (Evl.ex_rd F1'.exG h1)⟩, k ds δ1 _ G1' H1 w (e1.trans e1') F1' p1 ⟨_, YAt xs, by rw [← reps_length h2]; exact walk_list, fun H2 e3 => sql (Evl.ex_rd e3 h1), fun i H2 x H3 hi (y : YAt xs i H2 x H3) => .inl ⟨y.1, ?_⟩⟩⟩
    obtain ⟨d, hd, hr⟩ := reps_getV h2 y.2
    exact ⟨d, hd, hr⟩
  | tup ys =>
    cases hi
    have rw2 : Rep c.K G1' (.tup ds) v := rw1
    unfold Rep at rw2
    obtain ⟨a, xs, e2, h1, h2⟩ := rw2
    refine .inr (.inl ⟨a, e2, ⟨xs, Evl.ex_t F1'.exG h1⟩, k ds δ1 _ G1' H1 w (e1.trans e1') F1' p1 ⟨_, YAt xs, by rw [← reps_length h2]; exact walk_tup, fun H2 e3 => Evl.ex_t e3 h1, fun i H2 x H3 hi (y : YAt xs i H2 x H3) => .inl ⟨y.1, ?_⟩⟩⟩)
    obtain ⟨d, hd, hr⟩ := reps_getV h2 y.2
    exact ⟨d, hd, hr⟩
  | str z =>
    cases hi
    have e2 : v = .str z := by have h : Rep c.K G1' (.str z) v := rw1; unfold Rep at h; exact h
    have el : (signsD z).length = z.cps.size := by unfold signsD; simp
    refine .inr (.inr ⟨z, e2, k _ δ1 _ G1' H1 w (e1.trans e1') F1' p1 ⟨_, fun i H2 y H3 => H3 = H2 ∧ ∃ c, z.cps[i]? = some c ∧ y = .str ⟨#[c]⟩, by rw [el]; exact walk_str, fun _ _ => trivial, fun i H2 y H3 hi (yy : H3 = H2 ∧ ∃ c, z.cps[i]? = some c ∧ y = .str ⟨#[c]⟩) => .inl ⟨yy.1, ?_⟩⟩⟩)
    obtain ⟨_, ch, hc, ey⟩ := yy
    refine ⟨.str ⟨#[ch]⟩, ?_, ?_⟩
    · unfold signsD
      rw [List.getElem?_map, Array.getElem?_toList, hc]
      rfl
    · rw [ey]; exact rep_str
  | _ => cases hi
/-! ### an object of one's own is changed -/
theorem frame_mut {K : PySem.W.Frag} {B G H : Hp} {σ : St} {δ : List Sl} {i : Nat} {a : Addr} {x y : D} {o : HO} (F : Frame K B G H σ δ) (e : δ[i]? = some (.own a x)) (h : OwnR K G (upd H a o) a y) : Frame K B G (upd H a o) σ (δ.set i (.own a y)) := by
  obtain ⟨hB, hG⟩ := F.own a (owned_get e)
  have hn : a ∉ owned (δ.set i .no) := not_owned_set F.nd e (fun _ _ z => by cases z)
  have F0 := frame_forget i F
  have F1 : Frame K B G (upd H a o) σ (δ.set i .no) := by
    refine ⟨fun b u q => ?_, fun b u q => ?_, F0.dis, F0.sl.ex (Ex.refl G) (fun b hb => upd_ne fun z => hn (by rw [← z]; exact hb)), F0.own, F0.nd⟩
    · by_cases z : b = a
      · subst z; rw [hB] at q; cases q
      · rw [upd_ne z]; exact F0.exB b u q
    · by_cases z : b = a
      · subst z; rw [hG] at q; cases q
      · rw [upd_ne z]; exact F0.exG b u q
  obtain ⟨ov, h1, h2, _⟩ := F.get e
  have z := F1.sl.setS (s := .own a y) (ov := none) i fun ov' e' => by
    rw [h1] at e'
    cases e'
    exact ⟨h2, h⟩
  rw [List.set_set] at z
  refine ⟨F1.exB, F1.exG, F1.dis, z, fun b hb => ?_, by rw [owned_set_same e]; exact F.nd⟩
  rw [owned_set_same e] at hb
  exact F.own b hb
theorem own_lst {K : PySem.W.Frag} {B G H : Hp} {σ : St} {δ : List Sl} {i : Nat} {a : Addr} {ds : List D} (F : Frame K B G H σ δ) (e : δ[i]? = some (.own a (.lst ds))) : ∃ xs, H a = some (.lst xs) ∧ Reps K G ds xs := by
  obtain ⟨ov, _, _, h⟩ := F.get e
  exact h
/-- a method that changes a list: by its items and the arguments -/
abbrev Dmu := List D → List D → (List D → D → Prop) → Prop
def MuL (r : V → List V → Hp → VK → Prop) (f : Dmu) : Prop := ∀ (K : PySem.W.Frag) (G H : Hp) (a : Addr) (xs : List V) (ds es : List D) (vs : List V) (Ψ : List D → D → Prop) (Q : VK), H a = some (.lst xs) → Ex G H → Reps K G ds xs → Reps K G es vs → f ds es Ψ →
  (∀ ds' xs' z v, Ψ ds' z → Reps K G ds' xs' → Rep K G z v → Q v (upd H a (.lst xs'))) → r (.ref a) vs H Q
theorem we_mu {r : V → List V → Hp → VK → Prop} {f : Dmu} {tr : TA} {Φ : R → List Sl → Prop} (hm : MuL r f) (h : WE c false te δ fun r1 δ1 => ∃ i a, r1 = .bor i a ∧ (∃ ds, δ1[i]? = some (.own a (.lst ds))) ∧ WA c false tr δ1 fun rs δ2 => ∃ ds es, datas rs = some es ∧ δ2[i]? = some (.own a (.lst ds)) ∧
    f ds es fun ds' z => Φ (.d z) (δ2.set i (.own a (.lst ds')))) : WE c false (tBM c.K "list" r te tr) δ Φ := by
  intro B G H σ Q F x k
  refine h B G H σ _ F x fun r1 δ1 v1 G1 H1 w1 e1 F1 rv1 p1 => ?_
  obtain ⟨i, a, er, ⟨ds0, hd0⟩, w1⟩ := w1
  subst er
  obtain ⟨ev, _⟩ := rv1
  subst ev
  obtain ⟨xs0, hx0, _⟩ := own_lst F1 hd0
  refine ⟨.inl ⟨rfl, xs0, SqL.of hx0⟩, ?_⟩
  refine w1 B G1 H1 σ _ F1 (c.mono _ _ _ e1 x) fun rs δ2 vs G2 H2 w2 e2 F2 rv2 p2 => ?_
  obtain ⟨ds, es, he, hd, hf⟩ := w2
  obtain ⟨xs, hx, hr⟩ := own_lst F2 hd
  refine hm c.K G2 H2 a xs ds es vs _ Q hx F2.exG hr (datas_reps he rv2) hf fun ds' xs' z v q hr' hz => ?_
  exact k _ _ v G2 _ q (e1.trans e2) (frame_mut F2 hd ⟨xs', upd_same, hr'⟩) hz fun hp => by cases hp
theorem we_mu0 {r : V → List V → Hp → VK → Prop} {f : Dmu} {Φ : R → List Sl → Prop} (hm : MuL r f) (h : WE c false te δ fun r1 δ1 => ∃ i a ds, r1 = .bor i a ∧ δ1[i]? = some (.own a (.lst ds)) ∧
    f ds [] fun ds' z => Φ (.d z) (δ1.set i (.own a (.lst ds')))) : WE c false (tBM0 c.K "list" r te) δ Φ := by
  intro B G H σ Q F x k
  refine h B G H σ _ F x fun r1 δ1 v1 G1 H1 w1 e1 F1 rv1 p1 => ?_
  obtain ⟨i, a, ds, er, hd, hf⟩ := w1
  subst er
  obtain ⟨ev, _⟩ := rv1
  subst ev
  obtain ⟨xs, hx, hr⟩ := own_lst F1 hd
  refine ⟨.inl ⟨rfl, xs, SqL.of hx⟩, ?_⟩
  refine hm c.K G1 H1 a xs ds [] [] _ Q hx F1.exG hr reps_nil hf fun ds' xs' z v q hr' hz => ?_
  exact k _ _ v G1 _ q e1 (frame_mut F1 hd ⟨xs', upd_same, hr'⟩) hz fun hp => by cases hp
theorem reps_one' {K : PySem.W.Frag} {G : Hp} {x : D} {vs : List V} (h : Reps K G [x] vs) : ∃ v, vs = [v] ∧ Rep K G x v := by
  unfold Reps at h
  obtain ⟨v, vr, e, h1, h2⟩ := h
  unfold Reps at h2
  subst h2
  exact ⟨v, e, h1⟩
theorem mu_append : MuL rAppend fun ds es k => ∃ x, es = [x] ∧ ds.length < 100000 ∧ k (ds ++ [x]) .non := fun K G H a xs ds es vs Ψ Q hx eG hr he hf k => by
  obtain ⟨x, e, hl, q⟩ := hf
  subst e
  obtain ⟨v, e2, h2⟩ := reps_one' he
  subst e2
  exact ⟨a, xs, v, rfl, rfl, hx, Evl.sz_lt (by rw [reps_length hr]; exact hl), k _ _ _ _ q (reps_append hr (reps_one h2)) rep_non⟩
theorem reps_dropLast {K : PySem.W.Frag} {G : Hp} {ds : List D} {xs : List V} (h : Reps K G ds xs) : Reps K G ds.dropLast xs.dropLast := by
  rw [List.dropLast_eq_take, List.dropLast_eq_take, reps_length h]
  exact reps_take _ h
theorem mu_pop : MuL rPop fun ds es k => es = [] ∧ ∃ x, ds[ds.length - 1]? = some x ∧ k ds.dropLast x := fun K G H a xs ds es vs Ψ Q hx eG hr he hf k => by
  obtain ⟨e, x, hl, q⟩ := hf
  subst e
  unfold Reps at he
  subst he
  obtain ⟨v, h1, h2⟩ := reps_get hr hl
  exact ⟨a, xs, v, rfl, rfl, hx, by rw [reps_length hr]; exact h1, k _ _ _ _ q (reps_dropLast hr) h2⟩
theorem mu_clear : MuL rClear fun ds es k => es = [] ∧ k [] .non := fun K G H a xs ds es vs Ψ Q hx eG hr he hf k => by
  obtain ⟨e, q⟩ := hf
  subst e
  unfold Reps at he
  subst he
  exact ⟨a, xs, rfl, rfl, hx, k _ _ _ _ q reps_nil rep_non⟩
theorem mu_reverse : MuL rReverse fun ds es k => es = [] ∧ k ds.reverse .non := fun K G H a xs ds es vs Ψ Q hx eG hr he hf k => by
  obtain ⟨e, q⟩ := hf
  subst e
  unfold Reps at he
  subst he
  exact ⟨a, xs, rfl, rfl, hx, k _ _ _ _ q (reps_rev hr) rep_non⟩
/-- xs[i] = v -/
theorem wg_setL {r : R} {Φ : List Sl → Prop} (h : ∃ x, frz r = .d x ∧ WE c false ta δ fun r1 δ1 => ∃ i a, r1 = .bor i a ∧ WE c false tb δ1 fun r2 δ2 => ∃ n ds j, r2 = .d (.int n) ∧ δ2[i]? = some (.own a (.lst ds)) ∧ ixN ds.length n = some j ∧ Φ (δ2.set i (.own a (.lst (ds.set j x))))) :
    WG c (gSub ta tb rSetL) r δ Φ := by
  intro B G H σ v Q F x k rv
  obtain ⟨y, hy, h⟩ := h
  obtain ⟨G0, e0, F0, rw0⟩ := k.weak F
  rw [hy] at rw0
  refine h B G0 H σ _ F0 (c.mono _ _ _ e0 x) fun r1 δ1 v1 G1 H1 w1 e1 F1 rv1 p1 => ?_
  obtain ⟨i, a, er, w1⟩ := w1
  subst er
  obtain ⟨ev, _⟩ := rv1
  subst ev
  refine w1 B G1 H1 σ _ F1 (c.mono _ _ _ (e0.trans e1) x) fun r2 δ2 v2 G2 H2 w2 e2 F2 rv2 p2 => ?_
  obtain ⟨n, ds, j, er, hd, hj, w2⟩ := w2
  subst er
  have ev2 : v2 = .int n := by have h : Rep c.K G2 (.int n) v2 := rv2; unfold Rep at h; exact h
  obtain ⟨xs, hx, hr⟩ := own_lst F2 hd
  have rw2 : Rep c.K G2 y v := (RW.mono (e1.trans e2) rw0 : RW c.K G2 (.d y) v)
  exact ⟨a, xs, n, j, rfl, ev2, hx, by rw [reps_length hr]; exact hj, rv _ σ G2 _ w2 (e0.trans (e1.trans e2)) (frame_mut F2 hd ⟨_, upd_same, reps_set j hr rw2⟩)⟩
/-! ### methods that change nothing -/
def tyM (T : String) : D → Prop
  | .str _ => T = "str"
  | .lst _ => T = "list"
  | _ => False
theorem tyM_ok {B G H : Hp} {σ : St} {δ : List Sl} {r1 : R} {v : V} {x : D} {T : String} (F : Frame c.K B G H σ δ) (h1 : RW c.K G r1 v) (e1 : view δ r1 = some x) (h : tyM T x) : tyV c.K T v H := by
  cases x with
  | str z => have q := view_repH F h1 e1; unfold Rep at q; subst q; exact h
  | lst xs =>
    obtain ⟨a, vs, q1, q2, q3⟩ := view_lst F h1 e1
    subst q1
    exact .inl ⟨h, vs, .inl q2⟩
  | _ => exact h.elim
abbrev Dme := D → List D → (R → Prop) → Prop
def MeD (c : Cd) (r : V → List V → Hp → VK → Prop) (f : Dme) : Prop := ∀ (B G H : Hp) (σ : St) (δ : List Sl) (r1 : R) (rs : List R) (v : V) (vs : List V) (x : D) (ds : List D) (Ψ : R → Prop) (Q : VK), Frame c.K B G H σ δ → RW c.K G r1 v → RVs c.K G rs vs → view δ r1 = some x → views δ rs = some ds → f x ds Ψ →
  (∀ r v G' H', Ψ r → Ex G G' → Ex H H' → Frame c.K B G' H' σ δ → RV c.K B G' H' δ r v → Q v H') → r v vs H Q
theorem we_bm {T : String} {r : V → List V → Hp → VK → Prop} {f : Dme} {tr : TA} {Φ : R → List Sl → Prop} (hm : MeD c r f) (h : WE c p te δ fun r1 δ1 => (∃ x, view δ1 (frz r1) = some x ∧ tyM T x) ∧ WA c p tr δ1 fun rs δ2 => ∃ x ds, view δ2 (frz r1) = some x ∧ views δ2 rs = some ds ∧ f x ds fun r => Φ r δ2) : WE c p (tBM c.K T r te tr) δ Φ := by
  intro B G H σ Q F x k
  refine h B G H σ _ F x fun r1 δ1 v1 G1 H1 w1 e1 F1 rv1 p1 => ?_
  obtain ⟨G1', e1', F1', rw1⟩ := rv1.weak F1
  obtain ⟨⟨y, hy, ht⟩, w1⟩ := w1
  refine ⟨tyM_ok F1' rw1 hy ht, ?_⟩
  refine w1 B G1' H1 σ _ F1' (c.mono _ _ _ (e1.trans e1') x) fun rs δ2 vs G2 H2 w2 e2 F2 rv2 p2 => ?_
  obtain ⟨z, ds, hz, hds, hf⟩ := w2
  exact hm B G2 H2 σ δ2 _ rs v1 vs z ds _ Q F2 (rw1.mono e2) rv2 hz hds hf fun r v G' H' q e3 e4 F3 rv3 => k r δ2 v G' H' q ((e1.trans e1').trans (e2.trans e3)) F3 rv3 fun hp => ⟨(p2 hp).1.trans (p1 hp).1, ((p1 hp).2.trans (p2 hp).2).trans e4⟩
theorem we_bm0 {T : String} {r : V → List V → Hp → VK → Prop} {f : Dme} {Φ : R → List Sl → Prop} (hm : MeD c r f) (h : WE c p te δ fun r1 δ1 => ∃ x, view δ1 (frz r1) = some x ∧ tyM T x ∧ f x [] fun r => Φ r δ1) : WE c p (tBM0 c.K T r te) δ Φ := by
  intro B G H σ Q F x k
  refine h B G H σ _ F x fun r1 δ1 v1 G1 H1 w1 e1 F1 rv1 p1 => ?_
  obtain ⟨G1', e1', F1', rw1⟩ := rv1.weak F1
  obtain ⟨y, hy, ht, hf⟩ := w1
  refine ⟨tyM_ok F1' rw1 hy ht, ?_⟩
  exact hm B G1' H1 σ δ1 _ [] v1 [] y [] _ Q F1' rw1 rfl hy rfl hf fun r v G' H' q e3 e4 F3 rv3 => k r δ1 v G' H' q ((e1.trans e1').trans e3) F3 rv3 fun hp => ⟨(p1 hp).1, (p1 hp).2.trans e4⟩
/-- texts among data -/
def strsD : List D → Option (List Str)
  | [] => some []
  | .str b :: r => (strsD r).map (b :: ·)
  | _ :: _ => none
theorem strs_rep {K : PySem.W.Frag} {G : Hp} : ∀ {xs : List D} {bs : List Str} {vs : List V}, strsD xs = some bs → Reps K G xs vs → vs = bs.map V.str
  | [], bs, vs, e, h => by cases e; unfold Reps at h; exact h
  | x :: xs, bs, vs, e, h => by
    unfold Reps at h
    obtain ⟨v, vr, e1, h1, h2⟩ := h
    cases x with
    | str b =>
      unfold strsD at e
      cases q : strsD xs with
      | none => rw [q] at e; cases e
      | some cs =>
        rw [q] at e
        cases e
        unfold Rep at h1
        rw [e1, h1, strs_rep q h2]
        rfl
    | _ => cases e
theorem strsD_map (bs : List Str) : strsD (bs.map D.str) = some bs := by
  induction bs with
  | nil => rfl
  | cons b bs ih =>
    show (strsD (bs.map D.str)).map (b :: ·) = _
    rw [ih]
    rfl
def rJoinA (K : PySem.W.Frag) : V → List V → Hp → VK → Prop := fun x xs H Q => ∃ a p, ∃ ys : List Str, x = .str a ∧ xs = [.ref p] ∧ (SqL K H p (ys.map V.str) ∨ SqT K H p (ys.map V.str)) ∧ (ys.map (·.length)).sum + ys.length * a.length ≤ 16777216 ∧ Q (.str (Txt.join a ys)) H
theorem med_join : MeD c (rJoinA c.K) fun x ds k => ∃ a xs ys, x = .str a ∧ ds = [.lst xs] ∧ strsD xs = some ys ∧ (ys.map (·.length)).sum + ys.length * a.length ≤ 16777216 ∧ k (.d (.str (Str.join a ys))) := by
  intro B G H σ δ r1 rs v vs x ds Ψ Q F h1 hr e1 e2 hf k
  obtain ⟨a, xs, ys, ex, ed, hs, hl, q⟩ := hf
  subst ex ed
  have q1 := view_repH F h1 e1
  unfold Rep at q1
  cases rs with
  | nil => cases views_nil e2
  | cons r2 rs =>
    obtain ⟨x', es, e3, e4, e5⟩ := views_cons e2
    cases e3
    obtain ⟨w, wr, e6, h3, h4⟩ := hr
    cases rs with
    | cons r3 rs => obtain ⟨_, _, e7, _⟩ := views_cons e5; cases e7
    | nil =>
      have e8 : wr = [] := h4
      subst e8 e6
      obtain ⟨b, us, q2, q3, q4⟩ := view_lst F h3 e4
      have e9 := strs_rep hs q4
      subst e9 q2
      refine ⟨a, b, ys, q1, rfl, .inl (.inl q3), hl, ?_⟩
      rw [show Txt.join a ys = Str.join a ys from TL.join_eq a ys]
      exact k _ _ G H q (Ex.refl G) (Ex.refl H) F (rep_str (K := c.K) (G := G))
theorem views_one {r2 : R} {rs : List R} {K : PySem.W.Frag} {G : Hp} {vs : List V} {x : D} (e : views δ rs = some [x]) (h : RVs K G rs vs) : ∃ r w, rs = [r] ∧ vs = [w] ∧ view δ r = some x ∧ RW K G r w := by
  cases rs with
  | nil => cases views_nil e
  | cons r2 rs =>
    obtain ⟨x', es, e3, e4, e5⟩ := views_cons e
    cases e3
    obtain ⟨w, wr, e6, h3, h4⟩ := h
    cases rs with
    | cons r3 rs => obtain ⟨_, _, e7, _⟩ := views_cons e5; cases e7
    | nil =>
      have e8 : wr = [] := h4
      subst e8
      exact ⟨r2, w, rfl, e6, e4, h3⟩
def rFindA : V → List V → Hp → VK → Prop := fun x xs H Q => ∃ a b, x = .str a ∧ xs = [.str b] ∧ Q (.int (Txt.find a b)) H
theorem med_find : MeD c rFindA fun x ds k => ∃ a b, x = .str a ∧ ds = [.str b] ∧ k (.d (.int (Txt.find a b))) := by
  intro B G H σ δ r1 rs v vs x ds Ψ Q F h1 hr e1 e2 hf k
  obtain ⟨a, b, ex, ed, q⟩ := hf
  subst ex ed
  have q1 := view_repH F h1 e1
  unfold Rep at q1
  obtain ⟨r, w, er, ev, e4, h3⟩ := views_one (r2 := r1) e2 hr
  subst er ev
  have q2 := view_repH F h3 e4
  unfold Rep at q2
  subst q2
  exact ⟨a, b, q1, rfl, k _ _ G H q (Ex.refl G) (Ex.refl H) F (rep_int (K := c.K) (G := G))⟩
/-! ### dicts -/
theorem we_dnew {Φ : R → List Sl → Prop} (h : ∀ a, Φ (.own a (.dct [])) δ) : WE c p tDNewK δ Φ := by
  intro B G H σ Q F x k a ha
  obtain ⟨h1, h2, h3⟩ := F.fresh ha
  exact k _ δ _ G _ (h a) (Ex.refl G) (F.ex (Ex.new ha)) ⟨rfl, ⟨[], upd_same, by unfold RepK; rfl⟩, h1, h2, h3⟩ fun _ => ⟨rfl, Ex.new ha⟩
def keyD : Key → D
  | .inl i => .int i
  | .inr x => .str x
def dKey : D → Option Key
  | .int i => some (.inl i)
  | .str x => some (.inr x)
  | _ => none
theorem dKey_rep {K : PySem.W.Frag} {G : Hp} {x : D} {v : V} {k : Key} (e : dKey x = some k) (h : Rep K G x v) : v = kV k := by
  cases x <;> first | (cases e; done) | (cases e; unfold Rep at h; exact h)
def putD (kvs : List (Key × D)) (k : Key) (v : D) : List (Key × D) :=
  if (kvs.any fun kv => decide (kv.1 = k)) = true then kvs.map (fun kv => if kv.1 = k then (kv.1, v) else kv) else kvs ++ [(k, v)]
def getD (kvs : List (Key × D)) (k : Key) : Option D := (kvs.find? fun kv => decide (kv.1 = k)).map (·.2)
def dropD (kvs : List (Key × D)) (k : Key) : List (Key × D) := kvs.filter fun kv => decide (kv.1 ≠ k)
theorem repK_any {K : PySem.W.Frag} {G : Hp} (k : Key) : ∀ {ds : List (Key × D)} {vs : List (Key × V)}, RepK K G ds vs → (ds.any fun kv => decide (kv.1 = k)) = (vs.any fun kv => decide (kv.1 = k))
  | [], vs, h => by unfold RepK at h; subst h; rfl
  | (k', d) :: ds, vs, h => by
    unfold RepK at h
    obtain ⟨v, vr, e, h1, h2⟩ := h
    subst e
    rw [List.any_cons, List.any_cons, repK_any k h2]
theorem repK_map {K : PySem.W.Frag} {G : Hp} {k : Key} {x : D} {w : V} (hx : Rep K G x w) : ∀ {ds : List (Key × D)} {vs : List (Key × V)}, RepK K G ds vs →
    RepK K G (ds.map (fun kv => if kv.1 = k then (kv.1, x) else kv)) (vs.map (fun kv => if kv.1 = k then (kv.1, w) else kv))
  | [], vs, h => by unfold RepK at h; subst h; unfold RepK; rfl
  | (k', d) :: ds, vs, h => by
    unfold RepK at h
    obtain ⟨v, vr, e, h1, h2⟩ := h
    subst e
    have ih := repK_map (k := k) hx h2
    rw [List.map_cons, List.map_cons]
    by_cases q : k' = k
    · simp only [if_pos q]
      unfold RepK
      exact ⟨w, _, rfl, hx, ih⟩
    · simp only [if_neg q]
      unfold RepK
      exact ⟨v, _, rfl, h1, ih⟩
theorem repK_app {K : PySem.W.Frag} {G : Hp} {k : Key} {x : D} {w : V} (hx : Rep K G x w) : ∀ {ds : List (Key × D)} {vs : List (Key × V)}, RepK K G ds vs → RepK K G (ds ++ [(k, x)]) (vs ++ [(k, w)])
  | [], vs, h => by
    unfold RepK at h
    subst h
    show RepK K G [(k, x)] [(k, w)]
    unfold RepK
    exact ⟨w, [], rfl, hx, by unfold RepK; rfl⟩
  | (k', d) :: ds, vs, h => by
    unfold RepK at h
    obtain ⟨v, vr, e, h1, h2⟩ := h
    subst e
    show RepK K G ((k', d) :: (ds ++ [(k, x)])) ((k', v) :: (vr ++ [(k, w)]))
    unfold RepK
    exact ⟨v, _, rfl, h1, repK_app hx h2⟩
theorem repK_put {K : PySem.W.Frag} {G : Hp} {k : Key} {x : D} {w : V} {ds : List (Key × D)} {vs : List (Key × V)} (h : RepK K G ds vs) (hx : Rep K G x w) : RepK K G (putD ds k x) (putK vs k w) := by
  unfold putD putK
  rw [repK_any k h]
  split
  · exact repK_map hx h
  · exact repK_app hx h
theorem repK_val {K : PySem.W.Frag} {G : Hp} {k : Key} : ∀ {ds : List (Key × D)} {vs : List (Key × V)}, RepK K G ds vs → (getD ds k = none ∧ valV vs k = none) ∨ ∃ x v, getD ds k = some x ∧ valV vs k = some v ∧ Rep K G x v
  | [], vs, h => by unfold RepK at h; subst h; exact .inl ⟨rfl, rfl⟩
  | (k', d) :: ds, vs, h => by
    unfold RepK at h
    obtain ⟨v, vr, e, h1, h2⟩ := h
    subst e
    by_cases q : k' = k
    · refine .inr ⟨d, v, by simp [getD, q], by simp [valV, q], h1⟩
    · have ih := repK_val (k := k) h2
      have e1 : getD ((k', d) :: ds) k = getD ds k := by simp [getD, q]
      have e2 : valV ((k', v) :: vr) k = valV vr k := by simp [valV, q]
      rw [e1, e2]
      exact ih
theorem repK_len {K : PySem.W.Frag} {G : Hp} : ∀ {ds : List (Key × D)} {vs : List (Key × V)}, RepK K G ds vs → vs.length = ds.length
  | [], vs, h => by unfold RepK at h; subst h; rfl
  | (k', d) :: ds, vs, h => by
    unfold RepK at h
    obtain ⟨v, vr, e, h1, h2⟩ := h
    subst e
    simp [repK_len h2]
def mergeD (kvs more : List (Key × D)) : List (Key × D) := more.foldl (fun acc kv => putD acc kv.1 kv.2) kvs
theorem repK_merge {K : PySem.W.Frag} {G : Hp} : ∀ {more : List (Key × D)} {mv : List (Key × V)} {ds : List (Key × D)} {vs : List (Key × V)}, RepK K G more mv → RepK K G ds vs → RepK K G (mergeD ds more) (mergeK vs mv)
  | [], mv, ds, vs, h, h' => by unfold RepK at h; subst h; exact h'
  | (k', d) :: more, mv, ds, vs, h, h' => by
    unfold RepK at h
    obtain ⟨v, vr, e, h1, h2⟩ := h
    subst e
    have ih := repK_merge h2 (repK_put (k := k') h' h1)
    exact ih
/-- pairs from the left -/
def WP (c : Cd) (p : Bool) (trs : List (TE × TE)) (δ : List Sl) (Φ : List (D × D) → List Sl → Prop) : Prop :=
  ∀ (B G H : Hp) (σ : St) (Q : List (V × V) → Hp → Prop), Frame c.K B G H σ δ → c.xr B G →
    (∀ ps δ' vs G' H', Φ ps δ' → Ex G G' → Frame c.K B G' H' σ δ' → Reps c.K G' (ps.map (·.1)) (vs.map (·.1)) → Reps c.K G' (ps.map (·.2)) (vs.map (·.2)) → (p = true → δ' = δ ∧ Ex H H') → Q vs H') → tPairs trs σ H Q
theorem wp_nil {Ψ : List (D × D) → List Sl → Prop} (h : Ψ [] δ) : WP c p [] δ Ψ := fun B G H σ Q F x k => k [] δ [] G H h (Ex.refl G) F reps_nil reps_nil fun _ => ⟨rfl, Ex.refl H⟩
theorem wp_cons {trs : List (TE × TE)} {Ψ : List (D × D) → List Sl → Prop} (h : WE c p ta δ fun r1 δ1 => ∃ x, frz r1 = .d x ∧ WE c p tb δ1 fun r2 δ2 => ∃ y, frz r2 = .d y ∧ WP c p trs δ2 fun ps δ3 => Ψ ((x, y) :: ps) δ3) : WP c p ((ta, tb) :: trs) δ Ψ := by
  intro B G H σ Q F x k
  refine h B G H σ _ F x fun r1 δ1 v1 G1 H1 w1 e1 F1 rv1 p1 => ?_
  obtain ⟨G1', e1', F1', rw1⟩ := rv1.weak F1
  obtain ⟨a, ea, w1⟩ := w1
  rw [ea] at rw1
  refine w1 B G1' H1 σ _ F1' (c.mono _ _ _ (e1.trans e1') x) fun r2 δ2 v2 G2 H2 w2 e2 F2 rv2 p2 => ?_
  obtain ⟨G2', e2', F2', rw2⟩ := rv2.weak F2
  obtain ⟨b, eb, w2⟩ := w2
  rw [eb] at rw2
  have eG := (e1.trans e1').trans (e2.trans e2')
  refine w2 B G2' H2 σ _ F2' (c.mono _ _ _ eG x) fun ps δ3 vs G3 H3 w3 e3 F3 rk rv p3 => ?_
  have ra : Rep c.K G3 a v1 := (RW.mono ((e2.trans e2').trans e3) rw1 : RW c.K G3 (.d a) v1)
  have rb : Rep c.K G3 b v2 := (RW.mono e3 rw2 : RW c.K G3 (.d b) v2)
  exact k _ δ3 _ G3 H3 w3 (eG.trans e3) F3 (reps_cons ra rk) (reps_cons rb rv) fun hp => ⟨((p3 hp).1.trans (p2 hp).1).trans (p1 hp).1, ((p1 hp).2.trans (p2 hp).2).trans (p3 hp).2⟩
theorem pairs_rep {K : PySem.W.Frag} {G : Hp} : ∀ {kds : List (Key × D)} {vs : List (V × V)}, Reps K G (kds.map fun kv => keyD kv.1) (vs.map (·.1)) → Reps K G (kds.map (·.2)) (vs.map (·.2)) → ∃ kvs : List (Key × V), vs = kvs.map (fun kv => (kV kv.1, kv.2)) ∧ RepK K G kds kvs
  | [], vs, h, h' => by
    unfold Reps at h
    have e : vs = [] := by simpa using h
    subst e
    exact ⟨[], rfl, by unfold RepK; rfl⟩
  | (k, d) :: kds, vs, h, h' => by
    cases vs with
    | nil => rw [List.map_cons, List.map_nil] at h; unfold Reps at h; obtain ⟨_, _, e, _⟩ := h; cases e
    | cons w vs =>
      rw [List.map_cons, List.map_cons] at h h'
      unfold Reps at h h'
      obtain ⟨v1, r1, e1, h1, h2⟩ := h
      obtain ⟨v2, r2, e2, h3, h4⟩ := h'
      cases e1
      cases e2
      obtain ⟨kvs, e3, h5⟩ := pairs_rep h2 h4
      have ek : w.1 = kV k := by
        cases k <;> (unfold keyD Rep at h1; exact h1)
      refine ⟨(k, w.2) :: kvs, ?_, ?_⟩
      · rw [List.map_cons, ← e3, ← ek]
      · unfold RepK
        exact ⟨w.2, kvs, rfl, h3, h5⟩
theorem we_disp {trs : List (TE × TE)} {Φ : R → List Sl → Prop} (h : WP (c0 c.K) p trs δ fun ps δ1 => ∃ kds : List (Key × D), ps = kds.map (fun kv => (keyD kv.1, kv.2)) ∧ kds.length ≤ 15 ∧ ∀ a, Φ (.own a (.dct (mergeD [] kds))) δ1) : WE c p (tDisp trs) δ Φ := by
  intro B G H σ Q F x k a ha
  obtain ⟨hB, hG, hO⟩ := F.fresh ha
  have Fb : Frame c.K (upd B a (.dK [])) G (upd H a (.dK [])) σ δ := by
    have F1 := F.ex (Ex.new (o := .dK []) ha)
    refine ⟨fun b u q => ?_, F1.exG, fun b => ?_, F1.sl, fun b hb => ⟨?_, (F1.own b hb).2⟩, F1.nd⟩
    · by_cases z : b = a
      · subst z; rw [upd_same] at q ⊢; exact q
      · rw [upd_ne z] at q; exact F1.exB b u q
    · by_cases z : b = a
      · subst z; exact .inr hG
      · rw [upd_ne z]; exact F1.dis b
    · rw [upd_ne (fun z => hO (by rw [← z]; exact hb))]
      exact (F1.own b hb).1
  refine h _ G _ σ _ Fb trivial fun ps δ1 vs G1 H1 w1 e1 F1 rk rv p1 => ?_
  obtain ⟨kds, ep, hl, w1⟩ := w1
  subst ep
  have hk : Reps c.K G1 (kds.map fun kv => keyD kv.1) (vs.map (·.1)) := by simpa [List.map_map, Function.comp_def] using rk
  have hv : Reps c.K G1 (kds.map (·.2)) (vs.map (·.2)) := by simpa [List.map_map, Function.comp_def] using rv
  obtain ⟨kvs, ev, hr⟩ := pairs_rep hk hv
  have hH1 : H1 a = some (.dK []) := F1.exB a _ upd_same
  have hG1 : G1 a = none := by
    rcases F1.dis a with q | q
    · rw [upd_same] at q; cases q
    · exact q
  have hO1 : a ∉ owned δ1 := fun z => by
    have q := (F1.own a z).1
    rw [upd_same] at q
    cases q
  refine ⟨hH1, kvs, ev, by rw [repK_len hr]; exact hl, ?_⟩
  have F2 : Frame c.K B G1 (upd H1 a (.dK (mergeK [] kvs))) σ δ1 := by
    refine ⟨fun b u q => ?_, fun b u q => ?_, fun b => ?_, F1.sl.ex (Ex.refl G1) (fun b hb => upd_ne fun z => hO1 (by rw [← z]; exact hb)), fun b hb => ⟨?_, (F1.own b hb).2⟩, F1.nd⟩
    · have z : b ≠ a := fun z => by subst z; rw [hB] at q; cases q
      rw [upd_ne z]
      exact F1.exB b u (by rw [upd_ne z]; exact q)
    · have z : b ≠ a := fun z => by subst z; rw [hG1] at q; cases q
      rw [upd_ne z]
      exact F1.exG b u q
    · by_cases z : b = a
      · subst z; exact .inl hB
      · have q := F1.dis b; rw [upd_ne z] at q; exact q
    · have z : b ≠ a := fun z => hO1 (by rw [← z]; exact hb)
      have q := (F1.own b hb).1
      rw [upd_ne z] at q
      exact q
  refine k _ δ1 _ G1 _ (w1 a) e1 F2 ⟨rfl, ⟨_, upd_same, repK_merge hr (by unfold RepK; rfl)⟩, hB, hG1, hO1⟩ fun hp => ⟨(p1 hp).1, fun b u q => ?_⟩
  have z : b ≠ a := fun z => by subst z; rw [ha] at q; cases q
  rw [upd_ne z]
  exact (p1 hp).2 b u (by rw [upd_ne z]; exact q)
end
end DL

/-! DL7: the words as they are used. -/
namespace DL
open PySem PySem.Spec PyProof.Rows L2
open Evl (Ex)
/-! ### readings that the printer names -/
def rIsNA : R2 := fun x y H Q => y = .non ∧ Q (.bl (decide (x = .non))) H
def rNotNA : R2 := fun x y H Q => y = .non ∧ Q (.bl (!decide (x = .non))) H
theorem op_isNA {X : Cx} : OpR X (compareOp .Is) rIsNA := op_isN
theorem op_notNA {X : Cx} : OpR X (compareOp .IsNot) rNotNA := op_notN
def rSubA : R2 := rI0 fun i j => .int (i - j)
def rDivA : R2 := rI CDivW fun i j => .int (i / j)
def rModA : R2 := rI (fun _ j => 0 < j) fun i j => .int (i % j)
def rPowA : R2 := rI CPow fun i j => .int (i ^ j.toNat)
def rShlA : R2 := rI CPow fun i j => .int (i * 2 ^ j.toNat)
def rShrA : R2 := rI (fun _ j => 0 ≤ j) fun i j => .int (i / 2 ^ j.toNat)
def rLtA : R2 := rI0 fun i j => .bl (decide (i < j))
def rLeA : R2 := rI0 fun i j => .bl (decide (i ≤ j))
def rGtA : R2 := rI0 fun i j => .bl (decide (j < i))
def rGeA : R2 := rI0 fun i j => .bl (decide (j ≤ i))
def uNegA : V → Hp → VK → Prop := rU fun i => .int (-i)
def rAddI : TIp := fun x y H Q => rI0 (fun i j => .int (i + j)) x y H Q ∨ rAddS x y H Q
theorem iop_addA {X : Cx} : PIp X .Add rAddI := OpR.or (f := inplaceOp .Add) iop_add iop_add_str
section
variable {X : Cx}
theorem op_subA : OpR X (binaryOp .Sub) rSubA := op_sub
theorem op_divA : OpR X (binaryOp .FloorDiv) rDivA := op_fdivW
theorem op_modA : OpR X (binaryOp .Mod) rModA := op_mod
theorem op_powA : OpR X (binaryOp .Pow) rPowA := op_pow
theorem op_shlA : OpR X (binaryOp .LShift) rShlA := op_shl
theorem op_shrA : OpR X (binaryOp .RShift) rShrA := op_shr
theorem op_ltA : OpR X (compareOp .Lt) rLtA := op_lt
theorem op_leA : OpR X (compareOp .LtE) rLeA := op_le
theorem op_gtA : OpR X (compareOp .Gt) rGtA := op_gt
theorem op_geA : OpR X (compareOp .GtE) rGeA := op_ge
theorem un_negA : UnR X (unaryOp .USub) uNegA := un_neg
theorem call_lenA : CallR X (.builtin "len") (rLenA X.K) := call_len
theorem call_maxA (hc : X.calm = true) : CallR X (.builtin "max") rMax2 := call_max2 hc
theorem call_minA (hc : X.calm = true) : CallR X (.builtin "min") rMin2 := call_min2 hc
theorem call_strA : CallR X (.type "str") rStrI := call_str_int
theorem call_listA : CallR X (.type "list") (rListA X.K) := call_list_of
theorem call_tupA : CallR X (.type "tuple") (rTupA X.K) := call_tuple_of
theorem mt_joinA : MtR X "str.join" (rJoinA X.K) := L2.mt_join
theorem mt_findA : MtR X "str.find" rFindA := L2.mt_find
theorem mt_appendA : MtR X "list.append" rAppend := mt_append
end
/-! ### the words -/
def W (c : Cd) (t : TS) (δ : List Sl) (N : List Sl → Prop) (R : R → List Sl → Prop) (B C : List Sl → Prop) : Prop := WS c t δ ⟨N, R, B, C⟩
section
variable {c : Cd} {p : Bool} {δ : List Sl} {te ta tb : TE} {t u : TS} {tt : TT} {g : TG} {N B C : List Sl → Prop} {Rt : R → List Sl → Prop}
theorem w_seq (h : W c t δ (fun δ' => W c u δ' N Rt B C) Rt B C) : W c (tSeq t u) δ N Rt B C := ws_seq h
theorem w_next (h : N δ) : W c tNext δ N Rt B C := ws_next h
theorem w_break (h : B δ) : W c tBreak δ N Rt B C := ws_break h
theorem w_cont (h : C δ) : W c tCont δ N Rt B C := ws_cont h
theorem w_drop (h : WE c false te δ fun _ δ1 => N δ1) : W c (tDrop te) δ N Rt B C := ws_drop h
theorem w_ret (h : WE c false te δ Rt) : W c (tRet te) δ N Rt B C := ws_ret h
theorem w_retN (h : Rt (.d .non) δ) : W c tRetN δ N Rt B C := ws_retN h
theorem w_if (h : WT c false tt δ fun b δ1 => (b = true → W c t δ1 N Rt B C) ∧ (b = false → W c u δ1 N Rt B C)) : W c (tIfS tt t u) δ N Rt B C := ws_if h
theorem w_asg (h : WE c false te δ fun r δ1 => WG c g r δ1 N) : W c (tAsg te g) δ N Rt B C := ws_asg h
theorem w_never (h : False) : W c tNever δ N Rt B C := h.elim
theorem w_aug {i : Nat} {ti : TIp} {f : Dop} (ho : OpD c ti f) (r1 : R) (hr : rd δ i = some r1) (h : WE c false te δ fun r2 δ2 => ∃ x y, view δ2 (frz r1) = some x ∧ view δ2 (frz r2) = some y ∧ f x y fun r => ∃ s, slOf r = some s ∧ N (δ2.set i s)) : W c (tAug i te ti) δ N Rt B C := ws_aug ho ⟨r1, hr, h⟩
theorem w_par {i j : Nat} {tr : TA} (h : WA c false tr δ fun rs δ1 => ∃ x y, rs = [.d x, .d y] ∧ N ((δ1.set i (.d x)).set j (.d y))) : W c (tPar i j tr) δ N Rt B C := ws_par h
theorem w_for {wi : TI} (h : WI c false wi δ fun ds δ1 => ∃ I : Nat → List Sl → Prop, I 0 δ1 ∧
    (∀ i d δ2, ds[i]? = some d → I i δ2 → WG c g (.d d) δ2 fun δ3 => W c t δ3 (I (i + 1)) Rt N (I (i + 1))) ∧ ∀ δ2, I ds.length δ2 → N δ2) : W c (tFor wi g t) δ N Rt B C := ws_for h
theorem w_while (I : Nat → List Sl → Prop) (n : Nat) (h0 : I n δ) (hs : ∀ m δ', I m δ' → WT c false tt δ' fun b δ2 => (b = true → W c t δ2 (fun δ3 => ∃ m', m' < m ∧ I m' δ3) Rt N (fun δ3 => ∃ m', m' < m ∧ I m' δ3)) ∧ (b = false → N δ2)) : W c (tWhile tt t) δ N Rt B C := ws_while (I := I) n h0 hs
theorem w_frz (i : Nat) {a : Addr} {x : D} (e : δ[i]? = some (.own a x)) (h : W c t (δ.set i (.d x)) N Rt B C) : W c t δ N Rt B C := ws_frz i e h
theorem w_forget (i : Nat) (h : W c t (δ.set i .no) N Rt B C) : W c t δ N Rt B C := ws_forget i h
theorem w_mono {N' B' C' : List Sl → Prop} {Rt' : R → List Sl → Prop} (h : W c t δ N Rt B C) (m1 : ∀ δ', N δ' → N' δ') (m2 : ∀ r δ', Rt r δ' → Rt' r δ') (m3 : ∀ δ', B δ' → B' δ') (m4 : ∀ δ', C δ' → C' δ') : W c t δ N' Rt' B' C' := ws_mono h m1 m2 m3 m4
/-! ### operations on data, as they come out -/
variable {k : R → Prop} {i j : Int} {x y : D} {xs ys : List D} {s z : Str} {b : Bool}
theorem dAdd_i (h : k (.d (.int (i + j)))) : dAdd (.int i) (.int j) k := h
theorem dAdd_s (h1 : s.length + z.length ≤ 16000000) (h : k (.d (.str (s ++ z)))) : dAdd (.str s) (.str z) k := ⟨h1, h⟩
theorem dAdd_l (h1 : xs.length + ys.length ≤ 100000) (h : ∀ a, k (.own a (.lst (xs ++ ys)))) : dAdd (.lst xs) (.lst ys) k := ⟨h1, h⟩
theorem dInt0_i {g : Int → Int → D} (h : k (.d (g i j))) : dInt0 g (.int i) (.int j) k := h
theorem dInt_i {Cc : Int → Int → Prop} {g : Int → Int → D} (hc : Cc i j) (h : k (.d (g i j))) : dInt Cc g (.int i) (.int j) k := ⟨hc, h⟩
theorem dMul_i (hc : CMul i j ∨ CMulX i j) (h : k (.d (.int (i * j)))) : dMul (.int i) (.int j) k := ⟨hc, h⟩
theorem dMul_s (hc : s.length ≤ 1000 ∧ i ≤ 4000 ∧ -4000 ≤ i) (h : k (.d (.str (Txt.mul s i)))) : dMul (.str s) (.int i) k := ⟨hc, h⟩
theorem dEq_s {f : Bool → Bool} (e : sEq x y = some b) (h : k (.d (.bl (f b)))) : dEqF f x y k := .inl ⟨b, e, h⟩
theorem dEq_d {f : Bool → Bool} {d e : PyData} (h1 : py x = some d) (h2 : py y = some e) (h3 : SeqAt.shaped d = true) (h4 : SeqAt.shaped e = true) (h : k (.d (.bl (f (PyData.eqv d e))))) : dEqF f x y k := .inr ⟨d, e, h1, h2, h3, h4, h⟩
theorem dIn_s {f : Bool → Bool} {ch : Nat} (h : k (.d (.bl (f (decide (ch ∈ z.cps.toList)))))) : dIn f (.str ⟨#[ch]⟩) (.str z) k := ⟨ch, rfl, h⟩
theorem dIn_l {f : Bool → Bool} (h1 : flatD x = true) (h2 : xs.all flatD = true) (h : k (.d (.bl (f (inD x xs))))) : dIn f x (.lst xs) k := by cases x <;> exact ⟨h1, h2, h⟩
theorem dIn_t {f : Bool → Bool} (h1 : flatD x = true) (h2 : xs.all flatD = true) (h : k (.d (.bl (f (inD x xs))))) : dIn f x (.tup xs) k := by cases x <;> exact ⟨h1, h2, h⟩
theorem dIx_l (h1 : atI xs i = some x) (h : k (.d x)) : dIx (.lst xs) (.int i) k := ⟨x, h1, h⟩
theorem dIx_r (h1 : atI xs i = some x) (h : k (.d x)) : dIx (.ro xs) (.int i) k := ⟨x, h1, h⟩
theorem dIx_t (h1 : atI xs i = some x) (h : k (.d x)) : dIx (.tup xs) (.int i) k := ⟨x, h1, h⟩
theorem dIx_s {ch : Nat} (h0 : z.length ≤ 16000000) (h1 : atI z.cps.toList i = some ch) (h : k (.d (.str ⟨#[ch]⟩))) : dIx (.str z) (.int i) k := ⟨h0, ch, h1, h⟩
theorem dSl_l {lo hi : Option Int} (h : ∀ a, k (.own a (.lst (cutD xs lo hi)))) : dSl (.lst xs) lo hi k := h
theorem dSl_s {lo hi : Option Int} (h0 : z.length ≤ 16000000) (h : k (.d (.str (cutS z lo hi)))) : dSl (.str z) lo hi k := ⟨h0, h⟩
theorem dIsN_ {f : Bool → Bool} (h : k (.d (.bl (f (isNon x))))) : dIsN f x .non k := ⟨rfl, h⟩
theorem dIsB_ {f : Bool → Bool} {a b : Bool} (h : k (.d (.bl (f (decide (a = b)))))) : dIsB f (.bl a) (.bl b) k := h
theorem br_t {P Q : Prop} (h : P) : (true = true → P) ∧ (true = false → Q) := ⟨fun _ => h, fun q => nomatch q⟩
theorem br_f {P Q : Prop} (h : Q) : (false = true → P) ∧ (false = false → Q) := ⟨fun q => (nomatch q), fun _ => h⟩
theorem br {P Q : Prop} {b : Bool} (h1 : b = true → P) (h2 : b = false → Q) : (b = true → P) ∧ (b = false → Q) := ⟨h1, h2⟩
/-- by a proposition -/
theorem br_d {P Q A : Prop} [Decidable A] (h1 : A → P) (h2 : ¬ A → Q) : (decide A = true → P) ∧ (decide A = false → Q) := ⟨fun h => h1 (of_decide_eq_true h), fun h => h2 (of_decide_eq_false h)⟩
theorem br_n {P Q A : Prop} [Decidable A] (h1 : ¬ A → P) (h2 : A → Q) : ((!decide A) = true → P) ∧ ((!decide A) = false → Q) := ⟨fun h => h1 (by simpa using h), fun h => h2 (by simpa using h)⟩
theorem br_not {P Q : Prop} (h : (b = true → Q) ∧ (b = false → P)) : ((!b) = true → P) ∧ ((!b) = false → Q) := ⟨fun q => h.2 (by simpa using q), fun q => h.1 (by simpa using q)⟩
theorem opd_addA' : OpD c rAddA dAdd := opd_add
theorem opd_subA : OpD c rSubA (dInt0 fun i j => .int (i - j)) := opd_sub
theorem opd_divA : OpD c rDivA (dInt CDivW fun i j => .int (i / j)) := opd_fdiv
theorem opd_modA : OpD c rModA (dInt (fun _ j => 0 < j) fun i j => .int (i % j)) := opd_mod
theorem opd_powA : OpD c rPowA (dInt CPow fun i j => .int (i ^ j.toNat)) := opd_pow
theorem opd_shlA : OpD c rShlA (dInt CPow fun i j => .int (i * 2 ^ j.toNat)) := opd_shl
theorem opd_shrA : OpD c rShrA (dInt (fun _ j => 0 ≤ j) fun i j => .int (i / 2 ^ j.toNat)) := opd_shr
theorem opd_ltA : OpD c rLtA (dInt0 fun i j => .bl (decide (i < j))) := opd_lt
theorem opd_leA : OpD c rLeA (dInt0 fun i j => .bl (decide (i ≤ j))) := opd_le
theorem opd_gtA : OpD c rGtA (dInt0 fun i j => .bl (decide (j < i))) := opd_gt
theorem opd_geA : OpD c rGeA (dInt0 fun i j => .bl (decide (j ≤ i))) := opd_ge
theorem opd_isNA : OpD c rIsNA (dIsN id) := opd_isN
theorem opd_notNA : OpD c rNotNA (dIsN not) := opd_notN
def dAddI : Dop
  | .int i, .int j, k => k (.d (.int (i + j)))
  | .str x, .str y, k => x.length + y.length ≤ 16000000 ∧ k (.d (.str (x ++ y)))
  | _, _, _ => False
theorem opd_addI : OpD c rAddI dAddI := by
  intro B G H σ δ r1 r2 v1 v2 x y Ψ Q F h1 h2 e1 e2 hf k
  cases x with
  | int i =>
    cases y with
    | int j =>
      have q1 := view_repH F h1 e1
      have q2 := view_repH F h2 e2
      unfold Rep at q1 q2
      exact .inl ⟨i, j, q1, q2, k (.d (.int (i + j))) _ G H hf (Ex.refl G) (Ex.refl H) F (rep_int (K := c.K) (G := G))⟩
    | _ => exact hf.elim
  | str i =>
    cases y with
    | str j =>
      have q1 := view_repH F h1 e1
      have q2 := view_repH F h2 e2
      unfold Rep at q1 q2
      exact .inr ⟨i, j, q1, q2, size16 hf.1, k (.d (.str (i ++ j))) _ G H hf.2 (Ex.refl G) (Ex.refl H) F (rep_str (K := c.K) (G := G))⟩
    | _ => exact hf.elim
  | _ => exact hf.elim
theorem dAddI_i (h : k (.d (.int (i + j)))) : dAddI (.int i) (.int j) k := h
theorem dAddI_s (h1 : s.length + z.length ≤ 16000000) (h : k (.d (.str (s ++ z)))) : dAddI (.str s) (.str z) k := ⟨h1, h⟩
theorem we_negA {Φ : R → List Sl → Prop} (h : WE c p ta δ fun r δ1 => ∃ i, r = .d (.int i) ∧ Φ (.d (.int (-i))) δ1) : WE c p (tUn uNegA ta) δ Φ := we_neg h
/-- the def's own words from the parameters' -/
theorem lift_W {K : PySem.W.Frag} {S : SpD} {t : TS} {Nm : List Str} {vs : List V} {H : Hp} {Q : VK} {X : XK} (h : lift K S vs H Q X)
    (hb : ∀ as Φ, S as Φ → W (c0 K) t (as ++ List.replicate (Nm.length - as.length) .no) (RetD as Φ (.d .non)) (RetD as Φ) (fun _ => False) (fun _ => False)) : t { nx := fun _ H' => Q .non H', rt := Q } (L2.start Nm vs) H :=
  lift_body h fun as Φ _ hS => hb as Φ hS
theorem lift_len {K : PySem.W.Frag} {S : SpD} {n : Nat} (hl : ∀ as Φ, S as Φ → as.length = n) {vs : List V} {H : Hp} {Q : VK} {X : XK} (h : lift K S vs H Q X) : vs.length = n := by
  obtain ⟨B, G, as, F, hS⟩ := h
  have e := F.sl.len
  rw [← hl as _ hS, ← e, List.length_map]
end
end DL
namespace DL
open PySem PySem.Spec PyProof.Rows L2
section
variable {c : Cd} {p : Bool} {δ δ' : List Sl} {r1 r2 : R} {x y : D} {b : Bool} {k : R → Prop} {f : Dop}
theorem ex_op (h1 : view δ r1 = some x) (h2 : view δ r2 = some y) (q : f x y k) : ∃ x y, view δ r1 = some x ∧ view δ r2 = some y ∧ f x y k := ⟨x, y, h1, h2, q⟩
theorem ex_bl {P : Bool → Prop} (q : P b) : ∃ b', R.d (.bl b) = .d (.bl b') ∧ P b' := ⟨b, rfl, q⟩
theorem ex_bl2 {P Q : Bool → Prop} (q1 : P b) (q2 : Q b) : ∃ b', R.d (.bl b) = .d (.bl b') ∧ P b' ∧ Q b' := ⟨b, rfl, q1, q2⟩
theorem ex_int {i : Int} {P : Int → Prop} (q : P i) : ∃ i', R.d (.int i) = .d (.int i') ∧ P i' := ⟨i, rfl, q⟩
theorem ex_dat {P : D → Prop} (h : frz r1 = .d x) (q : P x) : ∃ x, frz r1 = .d x ∧ P x := ⟨x, h, q⟩
theorem ex_ds {rs : List R} {ds : List D} {P : List D → Prop} (h : datas rs = some ds) (q : P ds) : ∃ ds, datas rs = some ds ∧ P ds := ⟨ds, h, q⟩
theorem ex_vs {rs : List R} {ds : List D} {P : List D → Prop} (h : views δ rs = some ds) (q : P ds) : ∃ ds, views δ rs = some ds ∧ P ds := ⟨ds, h, q⟩
theorem ex_tr (h1 : view δ r1 = some x) (h2 : truD x = some b) (h3 : strOk x) (h4 : ∀ ds, x = .dct ds → ∃ i a, r2 = .bor i a) {Pb : Bool → Prop} (q : Pb b) : ∃ x b, view δ r1 = some x ∧ truD x = some b ∧ strOk x ∧ (∀ ds, x = .dct ds → ∃ i a, r2 = .bor i a) ∧ Pb b := ⟨x, b, h1, h2, h3, h4, q⟩
/-- the truth of a truth -/
theorem ex_trb {P : Bool → Prop} (q : P b) : ∃ x b', view δ (frz (R.d (.bl b))) = some x ∧ truD x = some b' ∧ strOk x ∧ (∀ ds, x = .dct ds → ∃ i a, R.d (.bl b) = .bor i a) ∧ P b' := ⟨_, b, rfl, rfl, trivial, (fun _ e => nomatch e), q⟩
theorem ex_len {n : Nat} {P : Nat → Prop} (h1 : strOk x) (h2 : lenD x = some n) (q : P n) : ∃ x', [x] = [x'] ∧ strOk x' ∧ ∃ n, lenD x' = some n ∧ P n := ⟨x, rfl, h1, n, h2, q⟩
theorem ex_isi {P : Bool → Prop} (h2 : isiD x y = some b) (q : P b) : ∃ x' y', [x, y] = [x', y'] ∧ ∃ b, isiD x' y' = some b ∧ P b := ⟨x, y, rfl, b, h2, q⟩
theorem ex_two {g : Int → Int → Int} {i j : Int} {Φ : R → Prop} (q : Φ (.d (.int (g i j)))) : ∃ x y, [D.int i, D.int j] = [x, y] ∧ dInt2 g x y Φ := ⟨_, _, rfl, q⟩
theorem ex_lst {ds : List D} {P : List D → Prop} (h : frz r1 = .d (.lst ds)) (q : P ds) : ∃ ds, frz r1 = .d (.lst ds) ∧ P ds := ⟨ds, h, q⟩
theorem ex_it {ds : List D} {P : List D → Prop} (h : frz r1 = .d x) (h2 : itemsD x = some ds) (q : P ds) : ∃ y ds, frz r1 = .d y ∧ itemsD y = some ds ∧ P ds := ⟨x, ds, h, h2, q⟩
theorem ex_view {P : D → Prop} (h : view δ r1 = some x) (q : P x) : ∃ x, view δ r1 = some x ∧ P x := ⟨x, h, q⟩
theorem wt_yes {Φ : Bool → List Sl → Prop} (q : Φ true δ) : WT c p tYes δ Φ := fun B G H σ Q F x k => k true δ G H q (Evl.Ex.refl G) F fun _ => ⟨rfl, Evl.Ex.refl H⟩
/-- types of flat things are told -/
theorem isi_ty {n T : String} (h : tyD x = some T) (h2 : kitB T n = some b) : isiD x (.ty n) = some b := by
  unfold isiD
  rw [h]
  exact h2
end
theorem kit_ii : kitB "int" "int" = some true := by decide +kernel
theorem kit_bi : kitB "bool" "int" = some true := by decide +kernel
theorem kit_ib : kitB "int" "bool" = some false := by decide +kernel
theorem kit_bb : kitB "bool" "bool" = some true := by decide +kernel
theorem kit_si : kitB "str" "int" = some false := by decide +kernel
theorem kit_sb : kitB "str" "bool" = some false := by decide +kernel
theorem kit_ss : kitB "str" "str" = some true := by decide +kernel
theorem kit_is : kitB "int" "str" = some false := by decide +kernel
theorem kit_bs : kitB "bool" "str" = some false := by decide +kernel
theorem kit_ni : kitB "NoneType" "int" = some false := by decide +kernel
theorem kit_nb : kitB "NoneType" "bool" = some false := by decide +kernel
theorem kit_ns : kitB "NoneType" "str" = some false := by decide +kernel
theorem kit_li : kitB "list" "int" = some false := by decide +kernel
theorem kit_lb : kitB "list" "bool" = some false := by decide +kernel
theorem kit_ls : kitB "list" "str" = some false := by decide +kernel
theorem kit_ti : kitB "tuple" "int" = some false := by decide +kernel
theorem kit_tb : kitB "tuple" "bool" = some false := by decide +kernel
theorem kit_ts : kitB "tuple" "str" = some false := by decide +kernel
theorem kit_di : kitB "dict" "int" = some false := by decide +kernel
theorem kit_db : kitB "dict" "bool" = some false := by decide +kernel
theorem kit_ds : kitB "dict" "str" = some false := by decide +kernel
/-- isinstance(x, int), (x, bool), (x, str) -/
def isIntD : D → Bool
  | .int _ => true | .bl _ => true | _ => false
def isBlD : D → Bool
  | .bl _ => true | _ => false
def isStrD : D → Bool
  | .str _ => true | _ => false
theorem isi_int {x : D} (h : (tyD x).isSome = true) : isiD x (.ty "int") = some (isIntD x) := by
  cases x <;> first | (cases h; done) | exact isi_ty rfl kit_ii | exact isi_ty rfl kit_bi | exact isi_ty rfl kit_si | exact isi_ty rfl kit_ni | exact isi_ty rfl kit_li | exact isi_ty rfl kit_ti | exact isi_ty rfl kit_di
theorem isi_bl {x : D} (h : (tyD x).isSome = true) : isiD x (.ty "bool") = some (isBlD x) := by
  cases x <;> first | (cases h; done) | exact isi_ty rfl kit_ib | exact isi_ty rfl kit_bb | exact isi_ty rfl kit_sb | exact isi_ty rfl kit_nb | exact isi_ty rfl kit_lb | exact isi_ty rfl kit_tb | exact isi_ty rfl kit_db
theorem isi_str {x : D} (h : (tyD x).isSome = true) : isiD x (.ty "str") = some (isStrD x) := by
  cases x <;> first | (cases h; done) | exact isi_ty rfl kit_is | exact isi_ty rfl kit_bs | exact isi_ty rfl kit_ss | exact isi_ty rfl kit_ns | exact isi_ty rfl kit_ls | exact isi_ty rfl kit_ts | exact isi_ty rfl kit_ds
end DL
namespace DL
open PySem PySem.Spec PyProof.Rows L2
/-- a def's words: what is to be shown of its body -/
def Ws (S : SpD) (t : PySem.W.Frag → TS) (pad : List Sl) : Prop := ∀ (K : PySem.W.Frag) (as : List Sl) (Φ : R → List Sl → Prop), S as Φ → W (c0 K) (t K) (as ++ pad) (RetD as Φ (.d .non)) (RetD as Φ) (fun _ => False) (fun _ => False)
theorem lift_Ws {K : PySem.W.Frag} {S : SpD} {t : PySem.W.Frag → TS} {n m : Nat} {Nm : List Str} {vs : List V} {H : Hp} {Q : VK} {X : XK} (hl : ∀ as Φ, S as Φ → as.length = n) (hm : Nm.length = n + m) (hb : Ws S t (List.replicate m .no)) (h : lift K S vs H Q X) :
    t K { nx := fun _ H' => Q .non H', rt := Q } (L2.start Nm vs) H := lift_W h fun as Φ hS => by
  have e : Nm.length - as.length = m := by rw [hl as Φ hS, hm]; omega
  rw [e]
  exact hb K as Φ hS
end DL
namespace DL
open PySem PySem.Spec PyProof.Rows L2
section
variable {c : Cd} {p : Bool} {δ : List Sl} {r1 r2 r3 : R} {x y z : D}
theorem we_ci {i : Int} {Φ : R → List Sl → Prop} (q : Φ (.d (.int i)) δ) : WE c p (tC (.int i)) δ Φ := we_c q
theorem we_cs {i : Str} {Φ : R → List Sl → Prop} (q : Φ (.d (.str i)) δ) : WE c p (tC (.str i)) δ Φ := we_c q
theorem we_cb' {i : Bool} {Φ : R → List Sl → Prop} (q : Φ (.d (.bl i)) δ) : WE c p (tC (.bl i)) δ Φ := we_c q
theorem we_cn {Φ : R → List Sl → Prop} (q : Φ (.d .non) δ) : WE c p (tC .non) δ Φ := we_c q
theorem we_ct {i : String} {Φ : R → List Sl → Prop} (q : Φ (.d (.ty i)) δ) : WE c p (tC (.ty i)) δ Φ := we_c q
theorem ex_vs1 {P : List D → Prop} (h : view δ r1 = some x) (q : P [x]) : ∃ ds, views δ [r1] = some ds ∧ P ds := ⟨[x], by unfold views; rw [h]; rfl, q⟩
theorem ex_vs2 {P : List D → Prop} (h : view δ r1 = some x) (h2 : view δ r2 = some y) (q : P [x, y]) : ∃ ds, views δ [r1, r2] = some ds ∧ P ds := ⟨[x, y], by unfold views; rw [h]; unfold views; rw [h2]; rfl, q⟩
theorem ex_vs3 {P : List D → Prop} (h : view δ r1 = some x) (h2 : view δ r2 = some y) (h3 : view δ r3 = some z) (q : P [x, y, z]) : ∃ ds, views δ [r1, r2, r3] = some ds ∧ P ds := ⟨[x, y, z], by unfold views; rw [h]; unfold views; rw [h2]; unfold views; rw [h3]; rfl, q⟩
theorem datas_nil : datas [] = some [] := rfl
theorem datas_cons {rs : List R} {ds : List D} (h : datas rs = some ds) : datas (.d x :: rs) = some (x :: ds) := by unfold datas; rw [h]; rfl
theorem ex_lsd {ds : List D} {rs : List R} {P : List D → Prop} (h : datas rs = some ds) (hl : ds.length ≤ 100000) (q : P ds) : ∃ ds, datas rs = some ds ∧ ds.length ≤ 100000 ∧ P ds := ⟨ds, h, hl, q⟩
end
end DL
namespace DL
open PySem PySem.Spec PyProof.Rows L2
section
variable {c : Cd} {p : Bool} {δ δ' : List Sl} {r r1 r2 : R} {x y z : D} {i : Nat} {a : Addr} {s : Sl}
theorem wg_nameN {Φ : List Sl → Prop} (e : slOf r = some s) (hs : δ.set i s = δ') (h : Φ δ') : WG c (gName i) r δ Φ := wg_name e (by rw [hs]; exact h)
theorem ex_bor {P : Nat → Addr → Prop} (q : P i a) : ∃ i' a', R.bor i a = .bor i' a' ∧ P i' a' := ⟨i, a, rfl, q⟩
theorem ex_set {P : List Sl → Prop} {n : Int} {ds ds2 : List D} {j : Nat} (h1 : δ[i]? = some (.own a (.lst ds))) (h2 : ixN ds.length n = some j) (h3 : ds.set j x = ds2) (h4 : δ.set i (.own a (.lst ds2)) = δ') (q : P δ') :
    ∃ n' ds' j', R.d (.int n) = .d (.int n') ∧ δ[i]? = some (.own a (.lst ds')) ∧ ixN ds'.length n' = some j' ∧ P (δ.set i (.own a (.lst (ds'.set j' x)))) := ⟨n, ds, j, rfl, h1, h2, by rw [h3, h4]; exact q⟩
theorem cdiv_ok {i j : Int} (h : 0 < j) (h2 : j < 2 ^ 200) : CDivW i j := wide_div (b := 200) h (by omega) (by decide) (by decide)
theorem toAs_nil : toAs δ [] = some [] := rfl
theorem toAs_d {rs : List R} {as : List Sl} (h : toAs δ rs = some as) : toAs δ (.d x :: rs) = some (.d x :: as) := by unfold toAs; rw [h]; rfl
theorem toAs_b {rs : List R} {as : List Sl} (e : δ[i]? = some (.own a x)) (h : toAs δ rs = some as) : toAs δ (.bor i a :: rs) = some (.own a x :: as) := by
  unfold toAs
  rw [e]
  simp [h]
theorem ex_call {as : List Sl} {rs : List R} {A : Prop} {P : List Sl → Prop} (h1 : toAs δ rs = some as) (h2 : (owned as).Nodup) (h3 : A) (q : P as) : ∃ as, toAs δ rs = some as ∧ (owned as).Nodup ∧ A ∧ P as := ⟨as, h1, h2, h3, q⟩
/-- a method that changes a list -/
theorem ex_mu {P : Nat → Addr → Prop} (q : P i a) (ds : List D) (h : δ[i]? = some (.own a (.lst ds))) {Q : Nat → Addr → Prop} (q2 : Q i a) : ∃ i' a', R.bor i a = .bor i' a' ∧ (∃ ds, δ[i']? = some (.own a' (.lst ds))) ∧ Q i' a' := ⟨i, a, rfl, ⟨ds, h⟩, q2⟩
theorem ex_mu1 {Q : Nat → Addr → Prop} {ds : List D} (h : δ[i]? = some (.own a (.lst ds))) (q2 : Q i a) : ∃ i' a', R.bor i a = .bor i' a' ∧ (∃ ds, δ[i']? = some (.own a' (.lst ds))) ∧ Q i' a' := ⟨i, a, rfl, ⟨ds, h⟩, q2⟩
theorem ex_app {P : List Sl → Prop} {ds : List D} (h1 : δ[i]? = some (.own a (.lst ds))) (h2 : ds.length < 100000) (h4 : δ.set i (.own a (.lst (ds ++ [x]))) = δ') (q : P δ') :
    ∃ ds es, datas [R.d x] = some es ∧ δ[i]? = some (.own a (.lst ds)) ∧ ∃ x, es = [x] ∧ ds.length < 100000 ∧ P (δ.set i (.own a (.lst (ds ++ [x])))) := ⟨ds, [x], rfl, h1, x, rfl, h2, by rw [h4]; exact q⟩
end
end DL
namespace DL
open PySem PySem.Spec PyProof.Rows L2
section
variable {c : Cd} {p : Bool} {δ δ' : List Sl} {r r1 r2 : R} {x y z : D} {i : Nat} {a : Addr} {s : Sl} {te ta tb : TE} {tr : TA} {N B C : List Sl → Prop} {Rt : R → List Sl → Prop}
theorem all_eqN {P : List Sl → Prop} {e : List Sl} (hs : e = δ') (q : P δ') : ∀ δ3, δ3 = e → P δ3 := fun δ3 h => by rw [h, hs]; exact q
theorem wg_setLN {Φ : List Sl → Prop} (h : ∃ x, frz r = .d x ∧ WE c false ta δ fun r1 δ1 => ∃ i a, r1 = .bor i a ∧ WE c false tb δ1 fun r2 δ2 => ∃ n ds j, r2 = .d (.int n) ∧ δ2[i]? = some (.own a (.lst ds)) ∧ ixN ds.length n = some j ∧ ∀ δ3, δ3 = δ2.set i (.own a (.lst (ds.set j x))) → Φ δ3) :
    WG c (gSub ta tb rSetL) r δ Φ := by
  obtain ⟨x, e, h⟩ := h
  refine wg_setL ⟨x, e, we_mono h fun r1 δ1 ⟨i, a, e1, h1⟩ => ⟨i, a, e1, we_mono h1 fun r2 δ2 ⟨n, ds, j, q1, q2, q3, q4⟩ => ⟨n, ds, j, q1, q2, q3, q4 _ rfl⟩⟩⟩
theorem ex_setN {P : List D → Nat → Prop} {n : Int} {ds : List D} {j : Nat} (h1 : δ[i]? = some (.own a (.lst ds))) (h2 : ixN ds.length n = some j) (q : P ds j) :
    ∃ n' ds' j', R.d (.int n) = .d (.int n') ∧ δ[i]? = some (.own a (.lst ds')) ∧ ixN ds'.length n' = some j' ∧ P ds' j' := ⟨n, ds, j, rfl, h1, h2, q⟩
theorem we_append {Φ : R → List Sl → Prop} (h : WE c false te δ fun r1 δ1 => ∃ i a, r1 = .bor i a ∧ (∃ ds, δ1[i]? = some (.own a (.lst ds))) ∧ WA c false tr δ1 fun rs δ2 => ∃ ds x, rs = [.d x] ∧ δ2[i]? = some (.own a (.lst ds)) ∧ ds.length < 100000 ∧
    ∀ δ3, δ3 = δ2.set i (.own a (.lst (ds ++ [x]))) → Φ (.d .non) δ3) : WE c false (tBM c.K "list" rAppend te tr) δ Φ := by
  refine we_mu mu_append (we_mono h fun r1 δ1 ⟨i, a, e1, h0, h1⟩ => ⟨i, a, e1, h0, ?_⟩)
  intro B G H σ Q F x k
  refine h1 B G H σ Q F x fun rs δ2 vs G' H' ⟨ds, y, e2, e3, hl, q⟩ => k rs δ2 vs G' H' ⟨ds, [y], by rw [e2]; rfl, e3, y, rfl, hl, q _ rfl⟩
theorem ex_appN {P : List D → D → Prop} {ds : List D} (h1 : δ[i]? = some (.own a (.lst ds))) (h2 : ds.length < 100000) (q : P ds x) : ∃ ds' x', [R.d x] = [.d x'] ∧ δ[i]? = some (.own a (.lst ds')) ∧ ds'.length < 100000 ∧ P ds' x' := ⟨ds, x, rfl, h1, h2, q⟩
theorem w_augN {i : Nat} {ti : TIp} {f : Dop} (ho : OpD c ti f) (r1 : R) (hr : rd δ i = some r1) (h : WE c false te δ fun r2 δ2 => ∃ x y, view δ2 (frz r1) = some x ∧ view δ2 (frz r2) = some y ∧ f x y fun r => ∃ s, slOf r = some s ∧ ∀ δ3, δ3 = δ2.set i s → N δ3) : W c (tAug i te ti) δ N Rt B C := by
  have e : (fun s => ∀ δ3, δ3 = s → N δ3) = N := by
    funext s
    exact propext ⟨fun h => h s rfl, fun h δ3 q => by rw [q]; exact h⟩
  have h' := h
  simp only [show ∀ (δ2 : List Sl) (s : Sl), (∀ δ3, δ3 = δ2.set i s → N δ3) = N (δ2.set i s) from fun δ2 s => congrFun e (δ2.set i s)] at h'
  exact w_aug ho r1 hr h'
theorem ex_sl {P : Sl → Prop} (h : slOf r = some s) (q : P s) : ∃ s, slOf r = some s ∧ P s := ⟨s, h, q⟩
theorem w_parN {i j : Nat} (h : WA c false tr δ fun rs δ1 => ∃ x y, rs = [.d x, .d y] ∧ ∀ δ3, δ3 = ((δ1.set i (.d x)).set j (.d y)) → N δ3) : W c (tPar i j tr) δ N Rt B C := by
  refine w_par ?_
  intro B G H σ Q F x k
  exact h B G H σ Q F x fun rs δ2 vs G' H' ⟨a, b, e2, q⟩ => k rs δ2 vs G' H' ⟨a, b, e2, q _ rfl⟩
theorem ex_par {P : D → D → Prop} (q : P x y) : ∃ x' y', [R.d x, R.d y] = [.d x', .d y'] ∧ P x' y' := ⟨x, y, rfl, q⟩
end
end DL
namespace DL
open PySem PySem.Spec PyProof.Rows L2
theorem dPow_ {k : R → Prop} {i j v : Int} (e : i ^ j.toNat = v) (hc : CPow i j) (h : k (.d (.int v))) : dInt CPow (fun i j => .int (i ^ j.toNat)) (.int i) (.int j) k := by
  subst e
  exact ⟨hc, h⟩
end DL

/-! DL8: a comprehension whose members change what the slots hold. -/
namespace DL
open PySem PySem.Spec PyProof.Rows L2
open Evl (Ex)
theorem upd_upd' {H : Hp} {a : Addr} {x y : HO} : upd (upd H a x) a y = upd H a y := by
  funext b
  by_cases q : b = a
  · subst q; rw [upd_same, upd_same]
  · rw [upd_ne q, upd_ne q, upd_ne q]
section
variable {c : Cd} {p : Bool} {δ : List Sl} {te : TE} {tt : TT} {g : TG}
theorem we_lc {wi : TI} {vs : List Nat} {Φ : R → List Sl → Prop} (h : WI c false wi δ fun ds δ1 => ds.length ≤ 100000 ∧ ∃ I : Nat → List D → List Sl → Prop, I 0 [] δ1 ∧ nonOwn δ1 vs ∧
    (∀ (i : Nat) (d : DL.D) (acc : List D) (ε : List Sl), ds[i]? = some d → acc.length ≤ i → I i acc ε → nonOwn ε vs ∧ WGc g c.K d (wipeS ε vs) vs fun ε1 => WT (c0 c.K) false tt ε1 fun b ε2 => (b = true → WE (c0 c.K) false te ε2 fun r ε3 => ∃ x, frz r = .d x ∧ ∀ ε4, ε4 = restS ε (wipeS ε3 vs) vs → I (i + 1) (acc ++ [x]) ε4) ∧ (b = false → ∀ ε4, ε4 = restS ε (wipeS ε2 vs) vs → I (i + 1) acc ε4)) ∧
    ∀ acc δ', acc.length ≤ ds.length → I ds.length acc δ' → ∀ a, Φ (.own a (.lst acc)) δ') : WE c false (tLc wi g tt te vs) δ Φ := by
  intro B G H σ Q F x k
  refine h B G H σ _ F x fun ds δ1 J G1 H1 w e1 F1 p1 ww => ?_
  obtain ⟨hlen, I, hI0, hno, step, w⟩ := w
  obtain ⟨Gd, Y, W, hG, hY⟩ := ww
  intro D hD
  obtain ⟨hB, hG1, hO⟩ := F1.fresh hD
  -- the frame with the list under way behind the wall
  have enter : ∀ {G H : Hp} {σ : St} {ε : List Sl} {xs : List V}, Frame c.K B G H σ ε → H D = none → Frame c.K (upd B D (.lst xs)) G (upd H D (.lst xs)) σ ε := fun {G H σ ε xs} F hD => by
    obtain ⟨q1, q2, q3⟩ := F.fresh hD
    have F' := F.ex (Ex.new (o := .lst xs) hD)
    refine ⟨fun b o e => ?_, F'.exG, fun b => ?_, F'.sl, fun a ha => ⟨?_, (F'.own a ha).2⟩, F'.nd⟩
    · by_cases q : b = D
      · subst q; rw [upd_same] at e ⊢; exact e
      · rw [upd_ne q] at e; exact F'.exB b o e
    · by_cases q : b = D
      · subst q; exact .inr q2
      · rw [upd_ne q]; exact F'.dis b
    · rw [upd_ne (fun q => q3 (by rw [← q]; exact ha))]
      exact (F'.own a ha).1
  refine lc_it W (fun i H' => ∃ G' xs acc ε, Ex G1 G' ∧ Frame c.K (upd B D (.lst xs)) G' H' σ ε ∧ Reps c.K G' acc xs ∧ acc.length ≤ i ∧ I i acc ε) ⟨G1, [], [], δ1, Ex.refl G1, enter F1 hD, reps_nil, Nat.le_refl _, hI0⟩
    (fun i H' _ ⟨G', xs, acc, ε, e2, F2, _⟩ => hG H' (e2.trans F2.exG)) (fun i y H2 H3 hi pv yy => ?_) fun H' pv => ?_
  · obtain ⟨G', xs, acc, ε, e2, F2, hr, hal, hI⟩ := pv
    have go : ∀ (d : DL.D) (G2 H2 : Hp), ds[i]? = some d → Ex G1 G2 → Frame c.K (upd B D (.lst xs)) G2 H2 σ ε → Reps c.K G2 acc xs → Rep c.K G2 d y → g y (wipe σ vs) H2 fun σ2 H2 => wipe σ2 vs = wipe σ vs ∧ tt σ2 H2 fun b H3 =>
        if b = true then te σ2 H3 fun y H4 => ∃ ac, H4 D = some (.lst ac) ∧ ac.length < sizeLine ∧ ∃ G' xs acc ε, Ex G1 G' ∧ Frame c.K (upd B D (.lst xs)) G' (upd H4 D (.lst (ac ++ [y]))) σ ε ∧ Reps c.K G' acc xs ∧ acc.length ≤ i + 1 ∧ I (i + 1) acc ε
        else ∃ G' xs acc ε, Ex G1 G' ∧ Frame c.K (upd B D (.lst xs)) G' H3 σ ε ∧ Reps c.K G' acc xs ∧ acc.length ≤ i + 1 ∧ I (i + 1) acc ε := by
      intro d G2 H2 hd e3 F3 hr3 hrep
      obtain ⟨hno2, st⟩ := step i d acc ε hd hal hI
      have Fb := frame_wipe F3 vs
      refine st _ G2 H2 (wipe σ vs) y _ Fb hrep fun ε1 σ1 hw og Fg ew => ⟨ew.trans (wipe_wipe σ vs), ?_⟩
      have ew' : wipe σ1 vs = wipe σ vs := ew.trans (wipe_wipe σ vs)
      -- back to the outer slots
      have out : ∀ {G4 H4 : Hp} {ε4 : List Sl}, Ex G2 G4 → Frame c.K (upd B D (.lst xs)) G4 H4 σ1 ε4 → Frame c.K (upd B D (.lst xs)) G4 H4 σ (restS ε (wipeS ε4 vs) vs) := fun {G4 H4 ε4} e4 F4 => by
        have F5 := frame_wipe F4 vs
        rw [ew'] at F5
        exact ⟨F5.exB, F5.exG, F5.dis, restS_sl F3.sl e4 hno2 F5.sl, fun a ha => F5.own a ((restS_sub hno2).subset ha), F5.nd.sublist (restS_sub hno2)⟩
      refine hw _ G2 H2 σ1 _ Fg trivial fun b ε2 G4 H4 w4 e4 F4 _ => ?_
      cases b with
      | false =>
        rw [if_neg Bool.false_ne_true]
        exact ⟨G4, xs, acc, _, e3.trans e4, out e4 F4, hr3.mono e4, by omega, w4.2 rfl _ rfl⟩
      | true =>
        rw [if_pos rfl]
        refine w4.1 rfl _ G4 H4 σ1 _ F4 trivial fun r ε5 v5 G5 H5 w5 e5 F5 rv5 _ => ?_
        obtain ⟨z, hz, hI5⟩ := w5
        obtain ⟨G6, e6, F6, hr6⟩ := rv5.weak F5
        rw [hz] at hr6
        have hr6' : Rep c.K G6 z v5 := hr6
        have F7 := out (e4.trans (e5.trans e6)) F6
        have hx5 : H5 D = some (.lst xs) := F7.exB D _ upd_same
        have hlx : xs.length ≤ 100000 := by
          have hi' : i < ds.length := by
            rcases Nat.lt_or_ge i ds.length with q | q
            · exact q
            · rw [List.getElem?_eq_none q] at hd; cases hd
          rw [reps_length hr3]
          omega
        have dG : G6 D = none := by
          rcases F7.dis D with q | q
          · rw [upd_same] at q; cases q
          · exact q
        have hOD : ∀ a ∈ owned (restS ε (wipeS ε5 vs) vs), a ≠ D := fun a ha q => by
          have z := (F7.own a ha).1
          rw [q, upd_same] at z
          cases z
        refine ⟨xs, hx5, Nat.lt_of_le_of_lt hlx (by rw [sizeLine_eq]; decide), G6, xs ++ [v5], acc ++ [z], _, (e3.trans e4).trans (e5.trans e6), ?_, reps_append (hr3.mono ((e4.trans e5).trans e6)) (reps_one hr6'), by rw [List.length_append]; simp; omega, hI5 _ rfl⟩
        refine ⟨fun b o e => ?_, fun b o e => ?_, fun b => ?_, F7.sl.ex (Ex.refl _) (fun a ha => upd_ne (hOD a ha)), fun a ha => ⟨?_, (F7.own a ha).2⟩, F7.nd⟩
        · by_cases q : b = D
          · subst q; rw [upd_same] at e ⊢; exact e
          · rw [upd_ne q] at e ⊢; exact F7.exB b o (by rw [upd_ne q]; exact e)
        · by_cases q : b = D
          · subst q; rw [dG] at e; cases e
          · rw [upd_ne q]; exact F7.exG b o e
        · by_cases q : b = D
          · subst q; exact .inr dG
          · have z := F7.dis b; rw [upd_ne q] at z ⊢; exact z
        · have z := (F7.own a ha).1
          rw [upd_ne (hOD a ha)] at z ⊢
          exact z
    rcases hY i H2 y H3 hi yy with ⟨q1, d, hd, hrep⟩ | ⟨T, o, d, hT, q1, hd, hrep⟩
    · subst q1
      exact go d G' H3 hd e2 F2 hr (hrep.mono e2)
    · subst q1
      have hT' := (F2.fresh hT).2.1
      exact go d (upd G' T o) _ hd (e2.trans (Ex.new hT')) (F2.laid hT) (hr.mono (Ex.new hT')) (hrep G' e2 hT')
  · obtain ⟨G', xs, acc, ε, e2, F2, hr, hal, hI⟩ := pv
    have hx : H' D = some (.lst xs) := F2.exB D _ upd_same
    have dG : G' D = none := by
      rcases F2.dis D with q | q
      · rw [upd_same] at q; cases q
      · exact q
    have hOD : D ∉ owned ε := fun ha => by
      have z := (F2.own D ha).1
      rw [upd_same] at z
      cases z
    have F3 : Frame c.K B G' H' σ ε := by
      refine ⟨fun b o e => ?_, F2.exG, fun b => ?_, F2.sl, fun a ha => ⟨?_, (F2.own a ha).2⟩, F2.nd⟩
      · by_cases q : b = D
        · subst q; rw [hB] at e; cases e
        · exact F2.exB b o (by rw [upd_ne q]; exact e)
      · by_cases q : b = D
        · subst q; exact .inl hB
        · have z := F2.dis b; rw [upd_ne q] at z; exact z
      · have z := (F2.own a ha).1
        rw [upd_ne (fun q => hOD (by rw [← q]; exact ha))] at z
        exact z
    exact k _ ε _ G' H' (w acc ε hal hI D) (e1.trans e2) F3 ⟨rfl, ⟨xs, hx, hr⟩, hB, dG, hOD⟩ fun hp => nomatch hp
end
end DL
namespace DL
open PySem PySem.Spec PyProof.Rows L2
section
variable {k : R → Prop} {x y : D} {z : Str} {b : Bool} {ch : Nat} {xs : List D}
theorem dEq_sI (e : sEq x y = some b) (h : k (.d (.bl b))) : dEqF id x y k := dEq_s e h
theorem dEq_sN (e : sEq x y = some b) (h : k (.d (.bl (!b)))) : dEqF not x y k := dEq_s e h
theorem dIn_sI (h : k (.d (.bl (decide (ch ∈ z.cps.toList))))) : dIn id (.str ⟨#[ch]⟩) (.str z) k := dIn_s h
theorem dIn_sN (h : k (.d (.bl (!decide (ch ∈ z.cps.toList))))) : dIn not (.str ⟨#[ch]⟩) (.str z) k := dIn_s h
theorem dIsN_I (h : k (.d (.bl (isNon x)))) : dIsN id x .non k := dIsN_ h
theorem dIsN_N (h : k (.d (.bl (!isNon x)))) : dIsN not x .non k := dIsN_ h
theorem dIsB_I {a b : Bool} (h : k (.d (.bl (decide (a = b))))) : dIsB id (.bl a) (.bl b) k := h
theorem dIsB_N {a b : Bool} (h : k (.d (.bl (!decide (a = b))))) : dIsB not (.bl a) (.bl b) k := h
end
theorem str_eq {x y : Str} (h : x.cps.toList = y.cps.toList) : x = y := by
  cases x; cases y
  simp only [Str.mk.injEq]
  exact Array.toList_inj.mp h
theorem one_str (ch c : Nat) : ((⟨#[ch]⟩ : Str) = ⟨#[c]⟩) ↔ ch = c := by
  constructor
  · intro h
    have h2 := congrArg (fun s : Str => s.cps.toList) h
    simpa using h2
  · rintro rfl; rfl
theorem find_none {z : Str} {ch : Nat} (h : ch ∉ z.cps.toList) : Txt.find z ⟨#[ch]⟩ = -1 := by
  have e := StrLaws.found_one z ch
  rw [decide_eq_false h] at e
  unfold Txt.find
  cases o : Builtin.Str.occurrences z ⟨#[ch]⟩ 0 z.length 1 with
  | nil => rfl
  | cons a r => rw [o] at e; cases e
theorem find_digit {ch : Nat} (h : 48 ≤ ch) (h2 : ch ≤ 57) : Txt.find (Str.ofString "0123456789") ⟨#[ch]⟩ = ((ch - 48 : Nat) : Int) := by
  have e : ∀ k, k < 10 → Txt.find (Str.ofString "0123456789") ⟨#[48 + k]⟩ = (k : Int) := by decide +kernel
  have z := e (ch - 48) (by omega)
  rw [show 48 + (ch - 48) = ch from by omega] at z
  exact z
theorem digits_mem {ch : Nat} : ch ∈ (Str.ofString "0123456789").cps.toList ↔ 48 ≤ ch ∧ ch ≤ 57 := by
  rw [show (Str.ofString "0123456789").cps.toList = [48, 49, 50, 51, 52, 53, 54, 55, 56, 57] from by decide +kernel]
  simp only [List.mem_cons, List.not_mem_nil, or_false]
  omega
theorem sIx_pos {n d : Nat} {v : Int} (h : 0 ≤ v) : HT.sIx n d (some v) = min v.toNat n := by
  show (if v < 0 then (v + (n : Int)).toNat else min v.toNat n) = _
  rw [if_neg (by omega)]
theorem cut0 {z : Str} {n : Int} (h : 0 ≤ n) : (cutS z none (some n)).cps.toList = z.cps.toList.take n.toNat := by
  unfold cutS
  rw [HT.sIx_none, sIx_pos h, Nat.sub_zero, List.drop_zero]
  show z.cps.toList.take (min n.toNat z.length) = _
  rw [show z.length = z.cps.toList.length from TL.len_tl z, ← List.take_eq_take_min]
theorem cut1 {z : Str} {n : Int} (h : 0 ≤ n) : (cutS z (some n) none).cps.toList = z.cps.toList.drop n.toNat := by
  unfold cutS
  rw [HT.sIx_none, sIx_pos h]
  show (z.cps.toList.drop (min n.toNat z.length)).take (z.length - min n.toNat z.length) = _
  rw [show z.length = z.cps.toList.length from TL.len_tl z, List.take_of_length_le (by rw [List.length_drop]; omega)]
  by_cases q : n.toNat ≤ z.cps.toList.length
  · rw [Nat.min_eq_left q]
  · rw [Nat.min_eq_right (by omega), List.drop_eq_nil_of_le (Nat.le_refl _), List.drop_eq_nil_of_le (by omega)]
theorem cutD0 {xs : List D} {n : Int} (h : 0 ≤ n) : cutD xs none (some n) = xs.take n.toNat := by
  unfold cutD
  rw [HT.sIx_none, sIx_pos h, Nat.sub_zero, List.drop_zero, ← List.take_eq_take_min]
theorem cutD1 {xs : List D} {n : Int} (h : 0 ≤ n) : cutD xs (some n) none = xs.drop n.toNat := by
  unfold cutD
  rw [HT.sIx_none, sIx_pos h, List.take_of_length_le (by rw [List.length_drop]; omega)]
  by_cases q : n.toNat ≤ xs.length
  · rw [Nat.min_eq_left q]
  · rw [Nat.min_eq_right (by omega), List.drop_eq_nil_of_le (Nat.le_refl _), List.drop_eq_nil_of_le (by omega)]
theorem fx : (fun x => false ^^ x) = id := by funext x; cases x <;> rfl
theorem tx : (fun x => true ^^ x) = not := by funext x; cases x <;> rfl
theorem opd_inI {c : Cd} : OpD c (rInA c.K) (dIn id) := by
  have h := opd_in (c := c)
  rw [fx] at h
  exact h
theorem opd_inN {c : Cd} : OpD c (rNotInA c.K) (dIn not) := by
  have h := opd_notIn (c := c)
  rw [tx] at h
  exact h
section
variable {c : Cd} {δ : List Sl} {r1 r2 : R} {x y : D} {T : String} {P : D → List D → Prop} {Q : Prop}
theorem ex_ty (h : view δ r1 = some x) (h2 : tyM T x) (q : Q) : (∃ x, view δ r1 = some x ∧ tyM T x) ∧ Q := ⟨⟨x, h, h2⟩, q⟩
theorem ex_vm0 (h : view δ r1 = some x) (q : P x []) : ∃ x ds, view δ r1 = some x ∧ views δ [] = some ds ∧ P x ds := ⟨x, [], h, rfl, q⟩
theorem ex_vm1 (h : view δ r1 = some x) (h2 : view δ r2 = some y) (q : P x [y]) : ∃ x ds, view δ r1 = some x ∧ views δ [r2] = some ds ∧ P x ds := ⟨x, [y], h, by unfold views; rw [h2]; rfl, q⟩
theorem ex_find {a b : Str} {P : Str → Str → Prop} (q : P a b) : ∃ a' b', D.str a = .str a' ∧ [D.str b] = [.str b'] ∧ P a' b' := ⟨a, b, rfl, rfl, q⟩
theorem ex_join {a : Str} {xs : List D} {ys : List Str} {P : Str → List Str → Prop} (h : strsD xs = some ys) (hl : (ys.map (·.length)).sum + ys.length * a.length ≤ 16777216) (q : P a ys) : ∃ a' xs' ys', D.str a = .str a' ∧ [D.lst xs] = [.lst xs'] ∧ strsD xs' = some ys' ∧ (ys'.map (·.length)).sum + ys'.length * a'.length ≤ 16777216 ∧ P a' ys' := ⟨a, xs, ys, rfl, rfl, h, hl, q⟩
end
end DL

/-! DL9: divmod, xs[::-1], find from a place. -/
namespace DL
open PySem PySem.Spec PyProof.Rows L2
open Evl (Ex)
section
variable {c : Cd} {p : Bool} {δ : List Sl} {te ta tb : TE}
def rDivmodA : List V → Hp → VK → Prop := fun xs H Q => ∃ i j, xs = [.int i, .int j] ∧ CDiv i j ∧ ∀ p, H p = none → Q (.ref p) (upd H p (.tup [.int (i / j), .int (i % j)]))
theorem call_divmodA {X : Cx} : CallR X (.builtin "divmod") rDivmodA := call_divmod
theorem cad_divmod : CaD c rDivmodA fun ds k => ∃ x y, ds = [x, y] ∧ ∃ i j, x = .int i ∧ y = .int j ∧ CDiv i j ∧ k (.d (.tup [.int (i / j), .int (i % j)])) := cad_two fun B G H σ δ r1 r2 v w x y Ψ Q F h1 h2 e1 e2 hf k => by
  obtain ⟨i, j, ex, ey, hc, q⟩ := hf
  subst ex ey
  have q1 := view_repH F h1 e1
  have q2 := view_repH F h2 e2
  unfold Rep at q1 q2
  subst q1 q2
  refine ⟨i, j, rfl, hc, fun p hp => ?_⟩
  have hG := (F.fresh hp).2.1
  exact k _ _ (upd G p _) _ q (Ex.new hG) (Ex.new hp) (F.laid hp) (rep_newT hG (reps_cons rep_int (reps_one rep_int)))
theorem we_revL {Φ : R → List Sl → Prop} (h : WE c p te δ fun r δ1 => ∃ xs, view δ1 (frz r) = some (.lst xs) ∧ ∀ a, Φ (.own a (.lst xs.reverse)) δ1) : WE c p (tRevL c.K te) δ Φ := by
  intro B G H σ Q F x k
  refine h B G H σ _ F x fun r1 δ1 v1 G1 H1 w1 e1 F1 rv1 p1 => ?_
  obtain ⟨G1', e1', F1', rw1⟩ := rv1.weak F1
  obtain ⟨xs, hv, w1⟩ := w1
  obtain ⟨a, vs, q1, q2, q3⟩ := view_lst F1' rw1 hv
  refine ⟨a, vs, q1, .inl q2, fun b hb => ?_⟩
  obtain ⟨f1, f2, f3⟩ := F1'.fresh hb
  exact k _ δ1 _ G1' _ (w1 b) (e1.trans e1') (F1'.ex (Ex.new hb)) ⟨rfl, ⟨vs.reverse, upd_same, reps_rev q3⟩, f1, f2, f3⟩ fun hp => ⟨(p1 hp).1, (p1 hp).2.trans (Ex.new hb)⟩
def rFind3A : V → List V → Hp → VK → Prop := fun x xs H Q => ∃ (a b : Str) (i : Int), x = .str a ∧ xs = [.str b, .int i] ∧ Q (.int (Txt.find3 a b i)) H
theorem mt_find3A {X : Cx} : MtR X "str.find" rFind3A := L2.mt_find3
theorem views_two {rs : List R} {K : PySem.W.Frag} {G : Hp} {vs : List V} {x y : D} (e : views δ rs = some [x, y]) (h : RVs K G rs vs) : ∃ r w r2 w2, rs = [r, r2] ∧ vs = [w, w2] ∧ view δ r = some x ∧ view δ r2 = some y ∧ RW K G r w ∧ RW K G r2 w2 := by
  cases rs with
  | nil => cases views_nil e
  | cons r2 rs =>
    obtain ⟨x', es, e3, e4, e5⟩ := views_cons e
    cases e3
    obtain ⟨w, wr, e6, h3, h4⟩ := h
    obtain ⟨r, w', er, ew, e7, h5⟩ := views_one (r2 := r2) e5 h4
    subst er ew
    exact ⟨r2, w, r, w', rfl, e6, e4, e7, h3, h5⟩
theorem med_find3 : MeD c rFind3A fun x ds k => ∃ (a b : Str) (i : Int), x = .str a ∧ ds = [.str b, .int i] ∧ k (.d (.int (Txt.find3 a b i))) := by
  intro B G H σ δ r1 rs v vs x ds Ψ Q F h1 hr e1 e2 hf k
  obtain ⟨a, b, i, ex, ed, q⟩ := hf
  subst ex ed
  have q1 := view_repH F h1 e1
  unfold Rep at q1
  obtain ⟨r, w, r2, w2, er, ev, e4, e5, h3, h4⟩ := views_two e2 hr
  subst er ev
  have q2 := view_repH F h3 e4
  have q3 := view_repH F h4 e5
  unfold Rep at q2 q3
  subst q2 q3
  exact ⟨a, b, i, q1, rfl, k _ _ G H q (Ex.refl G) (Ex.refl H) F (rep_int (K := c.K) (G := G))⟩
theorem ex_find3 {a b : Str} {i : Int} {P : Str → Str → Int → Prop} (q : P a b i) : ∃ a' b' i', D.str a = .str a' ∧ [D.str b, D.int i] = [.str b', .int i'] ∧ P a' b' i' := ⟨a, b, i, rfl, rfl, q⟩
theorem ex_vm2 {r1 r2 r3 : R} {x y z : D} {P : D → List D → Prop} (h : view δ r1 = some x) (h2 : view δ r2 = some y) (h3 : view δ r3 = some z) (q : P x [y, z]) : ∃ x ds, view δ r1 = some x ∧ views δ [r2, r3] = some ds ∧ P x ds := ⟨x, [y, z], h, by unfold views; rw [h2]; unfold views; rw [h3]; rfl, q⟩
theorem ex_divmod {i j : Int} {P : Int → Int → Prop} (h : CDiv i j) (q : P i j) : ∃ x y, [D.int i, D.int j] = [x, y] ∧ ∃ i' j', x = .int i' ∧ y = .int j' ∧ CDiv i' j' ∧ P i' j' := ⟨_, _, rfl, i, j, rfl, rfl, h, q⟩
theorem ex_rev {r1 : R} {xs : List D} {P : List D → Prop} (h : view δ r1 = some (.lst xs)) (q : P xs) : ∃ xs, view δ r1 = some (.lst xs) ∧ P xs := ⟨xs, h, q⟩
theorem dIntC_b {b : Bool} {k : R → Prop} (h : k (.d (.int (if b = true then 1 else 0)))) : dIntC (.bl b) k := h
theorem dIntC_s {z : Str} {n : Int} {k : R → Prop} (h1 : PySem.intText? z = some n) (h2 : z.length ≤ 640) (h : k (.d (.int n))) : dIntC (.str z) k := ⟨n, h1, h2, h⟩
theorem ex_ownl {i : Nat} {a : Addr} {ds : List D} {Q : Prop} (h : δ[i]? = some (.own a (.lst ds))) (q : Q) : (∃ ds, δ[i]? = some (.own a (.lst ds))) ∧ Q := ⟨⟨ds, h⟩, q⟩
theorem wg_mono {g : TG} {r : R} {Φ Φ' : List Sl → Prop} (h : WG c g r δ Φ) (m : ∀ δ', Φ δ' → Φ' δ') : WG c g r δ Φ' := fun B G H σ v Q F xr rv k =>
  h B G H σ v Q F xr rv fun δ1 σ1 G1 H1 w => k δ1 σ1 G1 H1 (m δ1 w)
theorem wg_tup2 {g1 g2 : TG} {x y : D} {Φ : List Sl → Prop} (h : WG c g1 (.d x) δ fun δ1 => WG c g2 (.d y) δ1 Φ) : WG c (gTup c.K 2 (gCons g1 (gCons g2 gNil))) (.d (.tup [x, y])) δ Φ :=
  wg_tup rfl (wgs_cons (wg_mono h fun δ1 q => wgs_cons (wg_mono q fun δ2 q2 => wgs_nil q2)))
theorem wg_tup3 {g1 g2 g3 : TG} {x y z : D} {Φ : List Sl → Prop} (h : WG c g1 (.d x) δ fun δ1 => WG c g2 (.d y) δ1 fun δ2 => WG c g3 (.d z) δ2 Φ) : WG c (gTup c.K 3 (gCons g1 (gCons g2 (gCons g3 gNil)))) (.d (.tup [x, y, z])) δ Φ :=
  wg_tup rfl (wgs_cons (wg_mono h fun δ1 q => wgs_cons (wg_mono q fun δ2 q2 => wgs_cons (wg_mono q2 fun δ3 q3 => wgs_nil q3))))
end
end DL

/-! DL10: defs called where no repr is under way: what repr of lists and tuples wants to know. -/
namespace DL
open PySem PySem.Spec PyProof.Rows L2
open Evl (Ex)
/-- nothing is being shown; the table of modules is a dict -/
def GOk (base : Heap) (A : Around) : Prop := A.guards = some [] ∧ ∃ o es ep, base.get? sysModules = some o ∧ o.data = .dict es ep
/-- a def's promise where nothing is being shown -/
structure FnG (P : Program) (w : World) (K : PySem.W.Frag) (mg : Str → Option Value) (base : Heap) (CX : CXT) (k : Nat) (f : Addr) (fd : FuncData) (ps : List Str) (sp : Sp) : Prop where
  len : ∀ vs H Q E, sp vs H Q E → vs.length = ps.length
  run : ∀ (A : Around) (outer : List Env) (s : Shared) (H : Hp) (args : Args) (us : List Value) (vs : List V) (Q : VK) (E : XK), GOk base A → Room k A → Env0 P w K mg base A outer s H →
    BindsTo s fd args (ps.zip us) → Vals vs us → sp vs H Q E → codeAny (model P w) A (.call (.ref f) args) (CR CX outer P w H s Q E) s
section
variable {CX : CXT} {P : Program} {w : World} {K : PySem.W.Frag} {mg : Str → Option Value} {base : Heap}
theorem FnG.up {j k : Nat} {f : Addr} {fd : FuncData} {ps : List Str} {sp : Sp} (F : FnG P w K mg base CX j f fd ps sp) (h : j ≤ k) : FnG P w K mg base CX k f fd ps sp :=
  { len := F.len, run := fun A o s H a us vs Q E g r => F.run A o s H a us vs Q E g (r.mono h) }
theorem fnG_of {k : Nat} {f : Addr} {name qual : Str} {params : Arguments} {body : List Stmt} {scope : Scope} {dV kV doc pm cdv ct oc : Value} {an od : Option Addr} {osl : Array (Option Value)} {N ps : List Str} {sp : Sp}
    (lk : K.lookup f = some ⟨oc, od, .func (PySem.W.fnOf name qual params body scope dV kV doc pm an cdv ct), osl⟩) (hcd : PySem.W.codeIn K cdv qual = true) (S : FnScope N ps scope) (len : ∀ vs H Q E, sp vs H Q E → vs.length = ps.length)
    (hb : ∀ (A : Around) (outer : List Env) (s : Shared) (H : Hp) (vs : List V) (Q : VK) (E : XK), GOk base A → Room k (A.deeper (envOfC qual scope s.heap.objs.size f cdv)) → sp vs H Q E →
      ∃ t, PSs (cxOf CX P w K mg base N qual scope f cdv A outer s H E) body t ∧ t { nx := fun _ H' => Q .non H', rt := Q } (L2.start N vs) H) :
    FnG P w K mg base CX (k + 1) f (PySem.W.fnOf name qual params body scope dV kV doc pm an cdv ct) ps sp where
  len := len
  run := by
    intro A outer s H args us vs Q E gA room env bind rel wish
    have keep : ∀ b o, base.get? b = some o → s.heap.get? b = some o := fun b o e => (env.bs b o e).1
    have inK := env.mod.kin.keeps keep
    have many := len vs H Q E wish
    obtain ⟨t, ht, run⟩ := hb A outer s H vs Q E gA (room.deeper _) wish
    refine codeAny_call_function room.depth (inK f _ lk) rfl S.co S.gen rfl (PySem.W.codeRec_of inK hcd) (bind _ _ _ _ (wpAny_newFunctionEnv_cells S.kind (fun y hy => ?_) fun env' he s1 x => ?_))
    · obtain ⟨yn, yv⟩ := y
      cases S.par yn (List.of_mem_zip hy).1 with
      | inl q => exact .inl q
      | inr q => exact .inr ⟨q, PySem.W.cellsFrom_some _ _ _ (.inl q)⟩
    · subst he
      refine ⟨(env.mod.nolimit.keeps keep).keeps x.toInCall.keep, codeAny_func (wpAny_mono (ht.run [] s1 (L2.start N vs) H _ (inv_start S room.hd env many rel x) run) (fun fl s' hs => ?_) fun _ _ q => q)⟩
      cases fl with
      | ret u => exact let ⟨v, _, H', J, rv, q⟩ := hs; ⟨v, H', J.os, J.bare, J.base, J.hok, rv, q⟩
      | next => exact let ⟨_, H', J, q⟩ := hs; ⟨.non, H', J.os, J.bare, J.base, J.hok, rfl, q⟩
      | brk => exact (let ⟨_, _, _, q⟩ := hs; q : False).elim
      | cont => exact (let ⟨_, _, _, q⟩ := hs; q : False).elim
theorem okG {x qual : Str} {st : Stmt} {f : Addr} {fd : FuncData} {N ps : List Str} {k : Nat} {sp : Sp} (F : Fun K x qual st f fd) (S : FnScope N ps (defScope st)) (len : ∀ vs H Q E, sp vs H Q E → vs.length = ps.length)
    (hb : ∀ (cdv : Value) (A : Around) (outer : List Env) (s : Shared) (H : Hp) (vs : List V) (Q : VK) (E : XK), GOk base A → Room k (A.deeper (envOfC qual (defScope st) s.heap.objs.size f cdv)) → sp vs H Q E →
      ∃ t, PSs (cxOf CX0 P w K mg base N qual (defScope st) f cdv A outer s H E).nox (defBody st) t ∧ t { nx := fun _ H' => Q .non H', rt := Q } (L2.start N vs) H) : FnG P w K mg base CX0 (k + 1) f fd ps sp := by
  obtain ⟨_, _, _, _, _, _, cdv, _, _, e, lk, hcd⟩ := F.ex
  subst e
  exact fnG_of lk hcd S len fun A outer s H vs Q E g r q => let ⟨t, h1, h2⟩ := hb cdv A outer s H vs Q E g r q; ⟨t, h1.nox, h2⟩
end
section
variable {X : Cx} {CX : CXT} {k : Nat} {f : Addr} {fd : FuncData} {ps : List Str} {sp : Sp} {dvs : List V} {ds : List Value} {E : XK} {x : Str} {p pos : Pos} {e : Expr} {es : List Expr} {t : TA}
theorem runG {pins : List (Addr × Obj)} {σ : L2.St} {H : Hp} {s : Shared} {Q : VK} {us : List Value} {vs : List V} (F : FnG X.prog X.w X.K X.mg X.base CX k f fd ps sp) (g : GOk X.base X.A) (hr : Room k X.A) (hb : Binds X.K fd ps ds) (hd : Vals dvs ds) (hx : Passes CX X E)
    (I : Inv X pins σ H s) (r : Vals vs us) (h : sp (vs ++ dvs) H Q E) : wpAny (model X.prog X.w) X.A (call (.ref f) us) (EP X pins σ Q) X.xe s := by
  have r2 := r.append hd
  have many : (us ++ ds).length = ps.length := by rw [← F.len _ _ _ _ h, r2.length]
  have go := F.run X.A X.stack s H ⟨us, []⟩ (us ++ ds) (vs ++ dvs) Q E g hr I.env0 (hb s us I.kIn many) r2 h
  refine wpAny_call (codeAny_mono go fun res s' q => ?_)
  match res, q with
  | .error ex, q => exact hx pins σ H s ex s' I q
  | .ok (.ret u), q => exact I.after q
theorem pe_callG (F : FnG X.prog X.w X.K X.mg X.base CX k f fd ps sp) (g : GOk X.base X.A) (hr : Room k X.A) (hg : Gl X x) (hm : X.mg x = some (.ref f)) (hk : PySem.W.keepIn X.K (.ref f) = true) (hb : Binds X.K fd ps ds) (hd : Vals dvs ds) (hx : Passes CX X E)
    (ha : PA X (e :: es) t) (hdb : (x == ("__debug__" : Str)) = false := by decide) (he : starEach (e :: es) X.env = (false, eval e X.env) :: starEach es X.env := by rfl) (hpl : (backTo pos (starEach es X.env)).any (·.1) = false := by rfl) : PE X (.Call (.Name x p) (e :: es) [] pos) (tCall sp dvs E t) := by
  constructor
  intro pins s σ H Q I h
  exact wpAny_Call_Name_kw (ld_glob I hg hm (PySem.W.callWith_K (h₀ := X.base) I.ok.mod.kin hk (thn (ha.run pos pins s σ H _ I h) fun us s1 ⟨vs, H1, I1, r, q⟩ => ⟨I1.kIn, runG F g hr hb hd hx I1 r q⟩) he hpl) hdb)
theorem pe_callG0 (F : FnG X.prog X.w X.K X.mg X.base CX k f fd ps sp) (g : GOk X.base X.A) (hr : Room k X.A) (hg : Gl X x) (hm : X.mg x = some (.ref f)) (hk : PySem.W.keepIn X.K (.ref f) = true) (hb : Binds X.K fd ps ds) (hd : Vals dvs ds) (hx : Passes CX X E)
    (hdb : (x == ("__debug__" : Str)) = false := by decide) : PE X (.Call (.Name x p) [] [] pos) (tCall sp dvs E tNil) := by
  constructor
  intro pins s σ H Q I h
  exact wpAny_Call_Name_kw (ld_glob I hg hm (PySem.W.callWith_K0 I.kIn hk (runG (us := []) F g hr hb hd hx I .nil h)) hdb)
end
/-! ### the head -/
theorem ns_dict {h : Heap} (x : ∃ mm, h.Ns sysModules mm ∧ mm "_pylong" = none) : ∃ o es ep, h.get? sysModules = some o ∧ o.data = .dict es ep := by
  obtain ⟨mm, ⟨o, es, ep, e, d, _⟩, _⟩ := x
  exact ⟨o, es, ep, e, d⟩
section
variable {P : Program} {w : World} {K : PySem.W.Frag} {mg mb : Str → Option Value} {CX : CXT} {k : Nat} {fa a : Addr} {fd : FuncData} {x : Str} {sp : Sp} {s₁ : Shared} {vs : List Value} {ns : List Int}
/-- what is asked behind the call -/
abbrev Told (s₁ : Shared) (r : Result) (s' : Shared) : Prop := r = .ok (.ret (.bool true)) ∧ OldK s₁.heap s'.heap ∧ s'.os = s₁.os ∧ AllBare s'.gens
/-- from a heap of ours in which at most the script is tracked -/
theorem head_at (H : Hp) (KX : K.In s₁.heap) (hns : s₁.heap.Ns mainGlobals mg) (hb : s₁.heap.Ns builtinsNs mb) (hbb : ∀ x : Str, x ≠ "__name__" → mb x = bootBuiltins x) (hlim : s₁.heap.NoLimit) (hg : s₁.gens = #[])
    (ha : s₁.heap.get? a = some { cls := .type "list", data := .seq vs.toArray }) (hr : Room k callerA)
    (hsm : ∃ o es ep, s₁.heap.get? sysModules = some o ∧ o.data = .dict es ep) (F : ∀ base : Heap, K.In base → base.Ns mainGlobals mg → FnG P w K mg base CX k fa fd [x] sp) (hbind : ∀ (s : Shared) (u : Value), BindsTo s fd ⟨[u], []⟩ [(x, u)])
    (hCX : ∀ H e s', CX [] H s₁ (fun _ _ _ => False) e s' → False) (hO : Only H) (hok : HOk P w H s₁.heap) (hA : ∀ b, H b ≠ none → b = a) (hK : H a ≠ none → K.lookup a = none)
    (hS : sp [.ref a] H (fun v _ => v = .bl true) fun _ _ _ => False) : codeAny (model P w) callerA (.call (.ref fa) ⟨[.ref a], []⟩) (Told s₁) s₁ := by
  have at_a : ∀ {b : Addr}, H b ≠ none → ∀ {o : Obj}, s₁.heap.get? b = some o → o = { cls := .type "list", data := .seq vs.toArray } := fun {b} z {o} e => by
    rw [hA b z, ha] at e
    exact (Option.some.inj e).symm
  have dict_none : ∀ {b : Addr} {o : Obj} {es : Array DictEntry} {ep : Nat}, s₁.heap.get? b = some o → o.data = .dict es ep → H b = none := fun e d => Classical.byContradiction fun z => by
    rw [at_a z e] at d
    cases d
  have ns_hid : ∀ {b : Addr} {m : Str → Option Value}, s₁.heap.Ns b m → (hidT s₁.heap H).Ns b m := fun h => by
    obtain ⟨o, es, ep, e, d, r⟩ := h
    exact ⟨o, es, ep, hidT_get e (dict_none e d), d, r⟩
  have k_hid : K.In (hidT s₁.heap H) := fun b o e => hidT_get (KX b o e) (Classical.byContradiction fun z => by
    have q := hA b z
    subst q
    rw [hK z] at e
    cases e)
  obtain ⟨mc, l1, l2⟩ := hlim
  have m_hid : ∃ o es ep, (hidT s₁.heap H).get? sysModules = some o ∧ o.data = .dict es ep := by
    obtain ⟨o, es, ep, e, d⟩ := hsm
    exact ⟨o, es, ep, hidT_get e (dict_none e d), d⟩
  have env : Env0 P w K mg (hidT s₁.heap H) callerA [] s₁ H :=
    { frames := rfl, mod := ⟨k_hid, ns_hid hns, ⟨mb, ns_hid hb, hbb⟩, ⟨mc, ns_hid l1, l2⟩⟩, bs := fun b o e => of_hidT e, bsz := Nat.le_of_eq (hidT_size _ _), funs := trivial, frf := fun b z => (nomatch z), hok := hok, bare := .of_eq hg }
  refine codeAny_mono ((F _ k_hid (ns_hid hns)).run callerA [] s₁ H ⟨[.ref a], []⟩ [.ref a] [.ref a] _ _ ⟨rfl, m_hid⟩ hr env (hbind s₁ (.ref a)) (.cons rfl .nil) hS) fun r s' h => ?_
  match r, h with
  | .error e, h => exact (hCX H e s' h).elim
  | .ok (.ret u), h =>
    obtain ⟨v, H', eo, br, un, hok', rv, q⟩ := h
    subst q
    have eu : u = Value.bool true := rv
    subst eu
    refine ⟨rfl, OldK.of_keep fun b o e => ?_, eo, br⟩
    rcases hO b with z | ⟨ob, xs, z⟩
    · exact un.keep b o e z (fun z => nomatch z) (fun z => nomatch z)
    · have e1 := (hok b _ z).1
      have e2 := (hok' b _ (un.frzs b ob _ z)).1
      rw [e] at e1
      rw [e2, e1]
theorem law_callG (KX : K.In s₁.heap) (hns : s₁.heap.Ns mainGlobals mg) (hb : s₁.heap.Ns builtinsNs mb) (hbb : ∀ x : Str, x ≠ "__name__" → mb x = bootBuiltins x) (hlim : s₁.heap.NoLimit) (hg : s₁.gens = #[])
    (ha : s₁.heap.get? a = some { cls := .type "list", data := .seq vs.toArray }) (hi : IntsAre vs ns) (hl : ns.length ≤ sizeLine) (hr : Room k callerA)
    (hsm : ∃ o es ep, s₁.heap.get? sysModules = some o ∧ o.data = .dict es ep) (F : ∀ base : Heap, K.In base → base.Ns mainGlobals mg → FnG P w K mg base CX k fa fd [x] sp) (hbind : ∀ (s : Shared) (u : Value), BindsTo s fd ⟨[u], []⟩ [(x, u)])
    (hsp : ∀ H : Hp, Only H → SqL K H a (ns.map V.int) → sp [.ref a] H (fun v _ => v = .bl true) fun _ _ _ => False)
    (hCX : ∀ H e s', CX [] H s₁ (fun _ _ _ => False) e s' → False) : codeAny (model P w) callerA (.call (.ref fa) ⟨[.ref a], []⟩) (Told s₁) s₁ := by
  have rel := vals_ints hi
  cases look : K.lookup a with
  | some o =>
    have same := KX a o look
    rw [ha] at same
    cases same
    have hO : Only fun _ => none := fun _ => .inl rfl
    exact head_at (fun _ => none) KX hns hb hbb hlim hg ha hr hsm F hbind hCX hO (fun _ _ z => nomatch z) (fun _ z => absurd rfl z) (fun z => absurd rfl z)
      (hsp _ hO (.inr ⟨_, vs.toArray, _, look, rfl, rfl, rfl, by rw [List.size_toArray, hi.length]; exact hl, by simpa using rel⟩))
  | none =>
    let obj : Obj := { cls := .type "list", data := .seq vs.toArray }
    let H : Hp := fun b => if b = a then some (.frz obj (.lst (ns.map V.int))) else none
    have at_a : H a = some (.frz obj (.lst (ns.map V.int))) := if_pos rfl
    have off : ∀ {b}, b ≠ a → H b = none := fun z => if_neg z
    have hO : Only H := fun b => by
      by_cases z : b = a
      · rw [z]; exact .inr ⟨_, _, at_a⟩
      · exact .inl (off z)
    refine head_at H KX hns hb hbb hlim hg ha hr hsm F hbind hCX hO (fun b u z => ?_) (fun b z => Classical.byContradiction fun q => z (off q)) (fun _ => look) (hsp _ hO (.inl (.inr ⟨_, at_a⟩)))
    by_cases q : b = a
    · subst q
      rw [at_a] at z
      cases z
      exact ⟨ha, by rw [List.length_map]; exact hl, vs, _, rel, ha⟩
    · rw [off q] at z
      cases z
end
theorem walk_ofG {l : PySem.W.OpenLaw} {n k : Nat} {q : Program} {loose : List Str} {XP : (Str → Option Value) → Heap → Prop} {YP : World → Heap → Prop} {d : DefRec} {K : Params → PySem.W.Frag} {CX : World → CXT} {sp : World → Sp} {x : Str}
    (hq : importsNone q = true) (hn : l.most = some n) (hn2 : n ≤ sizeLine) (hdf : d.params.defaults = []) (hr : Room k callerA) (hY : ∀ (w : World) (h : Heap), YP w h → (K w.params).In h)
    (F : ∀ (w : World) (mg : Str → Option Value) (fa : Addr) (h : Heap), (K w.params).In h → h.Ns mainGlobals mg → mg d.name = some (.ref fa) →
      ∃ fd : FuncData, (∀ (s : Shared) (u : Value), BindsTo s fd ⟨[u], []⟩ [(x, u)]) ∧ ∀ base : Heap, (K w.params).In base → base.Ns mainGlobals mg → FnG l.prog w (K w.params) mg base (CX w) k fa fd [x] (sp w))
    (hsp : ∀ (w : World) (H : Hp) (a : Addr) (ns : List Int), ns.length ≤ n → (∀ z ∈ ns, Builtin.Int.intBits z ≤ 1048576) → Only H → SqL (K w.params) H a (ns.map V.int) → sp w [.ref a] H (fun v _ => v = .bl true) fun _ _ _ => False)
    (hCX : ∀ (w : World) (H : Hp) (s : Shared) (e : Value) (s' : Shared), CX w [] H s (fun _ _ _ => False) e s' → False) : PySem.W.WalkO q loose XP YP l.row.toRowW d [] (fun f vs => PySem.call f vs) :=
  Att.attach_callB hn hdf fun w s₀ s₁ mg mb fa o pm cd doc a vs ns G Y _ _ _ hmg hobj hints hlen hbits hg =>
    let ⟨_, hb, hF⟩ := F w mg fa _ (hY w _ Y) G.T.g hmg
    law_callG (hY w _ Y) G.T.g G.T.b G.T.builtins G.T.nolimit hg hobj hints (Nat.le_trans hlen hn2) hr (ns_dict (G.T.seer hq).mods) hF hb (fun H hO hS => hsp w H a ns hlen hbits hO hS) fun H e s' => hCX w H s₁ e s'
end DL
namespace DL
open PySem PySem.Spec PyProof.Rows L2
open Evl (Ex)
end DL

/-! DL11: repr of data, dicts among them. -/
namespace DL
open PySem PySem.Spec PyProof.Rows L2
open Evl (Ex)
def keyPy : Key → PyData
  | .inl i => .int i
  | .inr x => .str x
mutual
def pyA : D → Option PyData
  | .non => some .none
  | .bl b => some (.bool b)
  | .int i => some (.int i)
  | .str x => some (.str x)
  | .lst xs => (pyAs xs).map .list
  | .tup xs => (pyAs xs).map .tuple
  | .dct kvs => (pyAk kvs).map .dict
  | _ => none
def pyAs : List D → Option (List PyData)
  | [] => some []
  | x :: xs => match pyA x with
    | some d => (pyAs xs).map (d :: ·)
    | none => none
def pyAk : List (Key × D) → Option (List (PyData × PyData))
  | [] => some []
  | (k, x) :: xs => match pyA x with
    | some d => (pyAk xs).map ((keyPy k, d) :: ·)
    | none => none
end
section
variable {X : Cx} {pins : List (Addr × Obj)} {σ : L2.St} {H : Hp} {s : Shared}
theorem rd_ok (I : Inv X pins σ H s) {a : Addr} {kvs : List (Key × V)} (ha : Rd H a (.dK kvs)) : ObjOk X.prog X.w H s.heap a (.dK kvs) := by
  rcases ha with ha | ⟨ob, ha⟩
  · exact I.hok a _ ha
  · exact (I.hok a _ ha).2
theorem keys_read {knd : KeyKind X.prog X.w Key} (hk : ∀ k v, knd.is k v = keyIs k v) {h : Heap} : ∀ {es : List DictEntry} {vs : List (Key × Value)}, Pairs knd es vs → ReadsAll h (es.map (·.key)) (vs.map fun p => keyPy p.1) []
  | [], _, p => by cases p; exact .nil
  | e :: es, _, p => by
    cases p with
    | @cons _ kv _ kvs q1 q2 q3 =>
      rw [hk] at q1
      obtain ⟨k, v⟩ := kv
      have r := keys_read hk (h := h) q3
      have one : Reads h e.key (keyPy k) [] := by
        rcases keyIs_shape q1 with ⟨i, t, e1, e2⟩ | ⟨x, t, e1, e2⟩
        · have e1 : k = .inl i := e1
          subst e1; rw [e2]; exact .int i t
        · have e1 : k = .inr x := e1
          subst e1; rw [e2]; exact .str x t
      exact ReadsAll.cons (as := []) one r
theorem vals_read {knd : KeyKind X.prog X.w Key} : ∀ {es : List DictEntry} {vs : List (Key × Value)}, Pairs knd es vs → es.map (·.val) = vs.map (·.2)
  | [], _, p => by cases p; rfl
  | e :: es, _, p => by
    cases p with
    | @cons _ kv _ kvs q1 q2 q3 =>
      simp only [List.map_cons]
      rw [q2, vals_read q3]
theorem kv_keys : ∀ {kvs : List (Key × V)} {vs : List (Key × Value)}, KV kvs vs → vs.map (fun p => keyPy p.1) = kvs.map (fun p => keyPy p.1)
  | _, _, .nil => rfl
  | _, _, .cons (a := a) (b := b) h1 h2 => by
    simp only [List.map_cons]
    rw [kv_keys h2, h1.1]
theorem pyAk_keys {K : PySem.W.Frag} {G : Hp} : ∀ {kds : List (Key × D)} {kvs : List (Key × V)} {ds : List (PyData × PyData)}, pyAk kds = some ds → RepK K G kds kvs → ds.map (·.1) = kvs.map (fun p => keyPy p.1)
  | [], kvs, ds, e, h => by
    unfold pyAk at e
    unfold RepK at h
    subst h
    cases e
    rfl
  | (k, x) :: kds, kvs, ds, e, h => by
    unfold pyAk at e
    unfold RepK at h
    obtain ⟨v, vr, e1, h1, h2⟩ := h
    subst e1
    cases e2 : pyA x with
    | none => rw [e2] at e; cases e
    | some d =>
      rw [e2] at e
      cases e3 : pyAk kds with
      | none => rw [e3] at e; cases e
      | some r =>
        rw [e3] at e
        cases e
        simp only [List.map_cons]
        rw [pyAk_keys e3 h2]
mutual
theorem rep_reads (I : Inv X pins σ H s) (m : ∃ o es ep, X.base.get? sysModules = some o ∧ o.data = .dict es ep) : ∀ (x : D) (v : V) (u : Value) (d : PyData), pyA x = some d → Rep X.K H x v → RelV v u → ∃ as, Reads s.heap u d as ∧ sysModules ∉ as
  | .non, v, u, d, e, h, r => by unfold Rep at h; unfold pyA at e; subst h; cases e; cases r; exact ⟨_, .none, by simp⟩
  | .bl b, v, u, d, e, h, r => by unfold Rep at h; unfold pyA at e; subst h; cases e; cases r; exact ⟨_, .bool b, by simp⟩
  | .int i, v, u, d, e, h, r => by unfold Rep at h; unfold pyA at e; subst h; cases e; obtain ⟨t, rfl⟩ := r; exact ⟨_, .int i t, by simp⟩
  | .str z, v, u, d, e, h, r => by unfold Rep at h; unfold pyA at e; subst h; cases e; obtain ⟨t, rfl⟩ := r; exact ⟨_, .str z t, by simp⟩
  | .ty _, _, _, _, e, _, _ => by unfold pyA at e; cases e
  | .ptr _, _, _, _, e, _, _ => by unfold pyA at e; cases e
  | .ro _, _, _, _, e, _, _ => by unfold pyA at e; cases e
  | .obj _ _, _, _, _, e, _, _ => by unfold pyA at e; cases e
  | .lst xs, v, u, d, e, h, r => by
    unfold Rep at h
    unfold pyA at e
    obtain ⟨a, vs, e1, h1, h2⟩ := h
    subst e1
    cases e2 : pyAs xs with
    | none => rw [e2] at e; cases e
    | some ds =>
      rw [e2] at e
      cases e
      cases r
      obtain ⟨its, rv, ⟨o, n, ho, hc, _, hd⟩, _⟩ := I.list (.inl h1)
      obtain ⟨as, hr, hn⟩ := reps_reads I m xs vs its ds e2 h2 rv
      refine ⟨_, Reads.list ho hc hd hr, fun hm => ?_⟩
      rcases List.mem_cons.mp hm with q | q
      · obtain ⟨o', es, ep, m1, m2⟩ := m
        have z := I.bk _ _ m1
        rw [q, ho] at z
        cases z
        rw [hd] at m2
        cases m2
      · exact hn q
  | .tup xs, v, u, d, e, h, r => by
    unfold Rep at h
    unfold pyA at e
    obtain ⟨a, vs, e1, h1, h2⟩ := h
    subst e1
    cases e2 : pyAs xs with
    | none => rw [e2] at e; cases e
    | some ds =>
      rw [e2] at e
      cases e
      cases r
      obtain ⟨its, rv, ⟨o, ho, hc, n, hd⟩, _⟩ := I.tuple h1
      obtain ⟨as, hr, hn⟩ := reps_reads I m xs vs its ds e2 h2 rv
      exact ⟨_, Reads.tuple ho hc hd hr, hn⟩
  | .dct kds, v, u, d, e, h, r => by
    unfold Rep at h
    unfold pyA at e
    obtain ⟨a, kvs, e1, h1, h2⟩ := h
    subst e1
    cases e2 : pyAk kds with
    | none => rw [e2] at e; cases e
    | some ds =>
      rw [e2] at e
      cases e
      cases r
      obtain ⟨_, hsys, vs, hkv, o, es, ep, ho, hx, hd, hk, hp, hn⟩ := rd_ok I h1
      obtain ⟨bs, hr, hn2⟩ := repk_reads I m kds kvs vs ds e2 h2 hkv
      have k1 := keys_read (knd := mixKind X.prog X.w) (fun _ _ => rfl) (h := s.heap) hp
      rw [kv_keys hkv, ← pyAk_keys e2 h2] at k1
      rw [← vals_read hp] at hr
      refine ⟨_, Reads.dict ho hx.1 hd k1 hr, fun hm => ?_⟩
      rcases List.mem_cons.mp (show sysModules ∈ a :: bs from hm) with q | q
      · rw [← q] at hsys
        simp at hsys
      · exact hn2 q
theorem reps_reads (I : Inv X pins σ H s) (m : ∃ o es ep, X.base.get? sysModules = some o ∧ o.data = .dict es ep) : ∀ (xs : List D) (vs : List V) (us : List Value) (ds : List PyData), pyAs xs = some ds → Reps X.K H xs vs → Vals vs us → ∃ as, ReadsAll s.heap us ds as ∧ sysModules ∉ as
  | [], vs, us, ds, e, h, r => by
    unfold Reps at h
    unfold pyAs at e
    subst h
    cases e
    cases r
    exact ⟨_, .nil, by simp⟩
  | x :: xs, vs, us, ds, e, h, r => by
    unfold Reps at h
    unfold pyAs at e
    obtain ⟨v, vr, e1, h1, h2⟩ := h
    subst e1
    cases e2 : pyA x with
    | none => rw [e2] at e; cases e
    | some d =>
      rw [e2] at e
      cases e3 : pyAs xs with
      | none => rw [e3] at e; cases e
      | some ds =>
        rw [e3] at e
        cases e
        cases r with
        | cons r1 r2 =>
          obtain ⟨as, q1, n1⟩ := rep_reads I m x v _ d e2 h1 r1
          obtain ⟨bs, q2, n2⟩ := reps_reads I m xs vr _ ds e3 h2 r2
          exact ⟨_, .cons q1 q2, fun hm => (List.mem_append.mp hm).elim n1 n2⟩
theorem repk_reads (I : Inv X pins σ H s) (m : ∃ o es ep, X.base.get? sysModules = some o ∧ o.data = .dict es ep) : ∀ (xs : List (Key × D)) (kvs : List (Key × V)) (vs : List (Key × Value)) (ds : List (PyData × PyData)), pyAk xs = some ds → RepK X.K H xs kvs → KV kvs vs → ∃ as, ReadsAll s.heap (vs.map (·.2)) (ds.map (·.2)) as ∧ sysModules ∉ as
  | [], kvs, vs, ds, e, h, r => by
    unfold RepK at h
    unfold pyAk at e
    subst h
    cases e
    cases r
    exact ⟨_, .nil, by simp⟩
  | (k, x) :: xs, kvs, vs, ds, e, h, r => by
    unfold RepK at h
    unfold pyAk at e
    obtain ⟨v, vr, e1, h1, h2⟩ := h
    subst e1
    cases e2 : pyA x with
    | none => rw [e2] at e; cases e
    | some d =>
      rw [e2] at e
      cases e3 : pyAk xs with
      | none => rw [e3] at e; cases e
      | some ds =>
        rw [e3] at e
        cases e
        cases r with
        | cons r1 r2 =>
          obtain ⟨as, q1, n1⟩ := rep_reads I m x v _ d e2 h1 r1.2
          obtain ⟨bs, q2, n2⟩ := repk_reads I m xs vr _ ds e3 h2 r2
          exact ⟨_, .cons q1 q2, fun hm => (List.mem_append.mp hm).elim n1 n2⟩
end
end
def rReprD (K : PySem.W.Frag) : List V → Hp → VK → Prop := fun xs H Q => ∃ v x d, xs = [v] ∧ Rep K H x v ∧ pyA x = some d ∧ d.showable = true ∧ d.shown.length ≤ 16000000 ∧ d.depth ≤ 50 ∧ Q (.str d.shown) H
theorem call_reprD {X : Cx} (g : GOk X.base X.A) (hu : X.A.units + 64 < cLine) : CallR X (.builtin "repr") (rReprD X.K) := by
  intro pins s σ H xs us Q I r h
  obtain ⟨v, x, d, e, hd, hp, hs, hl, hdp, q⟩ := h
  subst e
  obtain ⟨u, eu, ru⟩ := vals1 r
  subst eu
  obtain ⟨as, rd, hn⟩ := rep_reads I g.2 x v u d hp hd ru
  have hl' : d.shown.length ≤ sizeLine := Nat.le_trans hl (by rw [sizeLine_eq]; decide)
  have viaRef : ∀ a, u = .ref a → wpAny (model X.prog X.w) X.A (call (.builtin "repr") [u]) (EP X pins σ Q) X.xe s := fun a e => by
    subst e
    exact repr_of_reads' rd hs (fun _ => hn) g.1 (by omega) (fun _ _ e => e) (fun h' t tk k => ⟨.str _, H, I.kept (t' := tk) k, ⟨_, rfl⟩, q⟩) hl'
  cases x with
  | non => unfold Rep at hd; unfold pyA at hp; subst hd; cases hp; cases rd; exact PySem.P.repr_of_none ⟨.str _, H, I.tok _, ⟨_, rfl⟩, q⟩
  | bl b => unfold Rep at hd; unfold pyA at hp; subst hd; cases hp; cases rd; exact PySem.P.repr_of_bool ⟨.str _, H, I.tok _, ⟨_, rfl⟩, q⟩
  | int i => unfold Rep at hd; unfold pyA at hp; subst hd; cases hp; cases rd; exact PySem.P.repr_of_int (by simpa [PyData.showable] using hs) ⟨.str _, H, I.tok _, ⟨_, rfl⟩, q⟩
  | str z => unfold Rep at hd; unfold pyA at hp; subst hd; cases hp; cases rd; exact PySem.P.repr_of_str ⟨.str _, H, I.tok _, ⟨_, rfl⟩, q⟩ hl'
  | lst xs => unfold Rep at hd; obtain ⟨a, _, e, _⟩ := hd; subst e; cases ru; exact viaRef a rfl
  | tup xs => unfold Rep at hd; obtain ⟨a, _, e, _⟩ := hd; subst e; cases ru; exact viaRef a rfl
  | dct xs => unfold Rep at hd; obtain ⟨a, _, e, _⟩ := hd; subst e; cases ru; exact viaRef a rfl
  | ty _ => unfold pyA at hp; cases hp
  | ptr _ => unfold pyA at hp; cases hp
  | ro _ => unfold pyA at hp; cases hp
  | obj _ _ => unfold pyA at hp; cases hp
mutual
def rOk : D → Prop
  | .non => True
  | .bl _ => True
  | .int i => i.natAbs.log2 < 1920
  | .str z => ∀ ch ∈ z.cps.toList, ch < 4294967296
  | .lst xs => rOks xs
  | .tup xs => rOks xs
  | .dct kvs => rOkk kvs
  | _ => False
def rOks : List D → Prop
  | [] => True
  | x :: xs => rOk x ∧ rOks xs
def rOkk : List (Key × D) → Prop
  | [] => True
  | (.inl i, x) :: xs => i.natAbs.log2 < 1920 ∧ rOk x ∧ rOkk xs
  | (.inr z, x) :: xs => (∀ ch ∈ z.cps.toList, ch < 4294967296) ∧ rOk x ∧ rOkk xs
end
mutual
def wt : D → Nat
  | .str z => 10 * z.length + 2
  | .lst xs => wts xs + 3
  | .tup xs => wts xs + 3
  | .dct kvs => wtk kvs + 3
  | _ => 1921
def wts : List D → Nat
  | [] => 0
  | x :: xs => wt x + 2 + wts xs
def wtk : List (Key × D) → Nat
  | [] => 0
  | (.inl _, x) :: xs => 1921 + wt x + 4 + wtk xs
  | (.inr z, x) :: xs => 10 * z.length + 2 + wt x + 4 + wtk xs
end
mutual
def dpt : D → Nat
  | .lst xs => dpts xs + 1
  | .tup xs => dpts xs + 1
  | .dct kvs => dptk kvs + 1
  | _ => 0
def dpts : List D → Nat
  | [] => 0
  | x :: xs => max (dpt x) (dpts xs)
def dptk : List (Key × D) → Nat
  | [] => 0
  | (_, x) :: xs => max (dpt x) (dptk xs)
end
theorem shownAll_sum {x : PyData} {xs : List PyData} : ((PyData.shownAll (x :: xs)).map (·.length)).sum = x.shown.length + ((PyData.shownAll xs).map (·.length)).sum := by
  simp [PyData.shownAll]
theorem shownKv_sum {k v : PyData} {xs : List (PyData × PyData)} : ((PyData.shownKv ((k, v) :: xs)).map (·.length)).sum = k.shown.length + 2 + v.shown.length + ((PyData.shownKv xs).map (·.length)).sum := by
  have e2 : (k.shown ++ ": " ++ v.shown).length = k.shown.length + 2 + v.shown.length := by
    rw [strLen_append, strLen_append]; rfl
  simp only [PyData.shownKv, List.map_cons, List.sum_cons, e2]
theorem shownAll_len : ∀ xs : List PyData, (PyData.shownAll xs).length = xs.length
  | [] => rfl
  | x :: xs => by simp [PyData.shownAll, shownAll_len xs]
mutual
theorem rok_py : ∀ x : D, rOk x → ∃ d, pyA x = some d ∧ d.showable = true ∧ d.shown.length ≤ wt x ∧ d.depth ≤ dpt x
  | .non, _ => ⟨_, by unfold pyA; rfl, by simp [PyData.showable], by simp only [PyData.shown, wt]; decide +kernel, by simp [PyData.depth]⟩
  | .bl b, _ => ⟨_, by unfold pyA; rfl, by simp [PyData.showable], by simp only [PyData.shown, wt]; cases b <;> decide +kernel, by simp [PyData.depth]⟩
  | .int i, h => ⟨_, by unfold pyA; rfl, by unfold rOk at h; simp [PyData.showable, h], by unfold rOk at h; simp only [PyData.shown, wt]; exact int_text_len_1921 h, by simp [PyData.depth]⟩
  | .str z, h => ⟨_, by unfold pyA; rfl, by simp [PyData.showable], by unfold rOk at h; simp only [PyData.shown, wt]; exact StrLaws.reprText_len z h, by simp [PyData.depth]⟩
  | .lst xs, h => by
    unfold rOk at h
    obtain ⟨ds, h1, h2, h4, h5⟩ := roks_py xs h
    refine ⟨.list ds, by unfold pyA; rw [h1]; rfl, by simpa [PyData.showable] using h2, ?_, by simp only [PyData.depth, dpt]; omega⟩
    have q := listText_len_le (PyData.shownAll ds)
    simp only [PyData.shown, wt]
    rw [shownAll_len] at q
    omega
  | .tup xs, h => by
    unfold rOk at h
    obtain ⟨ds, h1, h2, h4, h5⟩ := roks_py xs h
    refine ⟨.tuple ds, by unfold pyA; rw [h1]; rfl, by simpa [PyData.showable] using h2, ?_, by simp only [PyData.depth, dpt]; omega⟩
    have q := tupleText_len_le (PyData.shownAll ds)
    simp only [PyData.shown, wt]
    rw [shownAll_len] at q
    omega
  | .dct kvs, h => by
    unfold rOk at h
    obtain ⟨ds, h1, h2, h4, h5⟩ := rokk_py kvs h
    refine ⟨.dict ds, by unfold pyA; rw [h1]; rfl, by simpa [PyData.showable] using h2, ?_, by simp only [PyData.depth, dpt]; omega⟩
    have q := dictText_len_le (PyData.shownKv ds)
    have q2 := PyData.shownKv_length ds
    simp only [PyData.shown, wt]
    omega
  | .ty _, h => by unfold rOk at h; exact h.elim
  | .ro _, h => by unfold rOk at h; exact h.elim
  | .ptr _, h => by unfold rOk at h; exact h.elim
  | .obj _ _, h => by unfold rOk at h; exact h.elim
theorem roks_py : ∀ xs : List D, rOks xs → ∃ ds, pyAs xs = some ds ∧ PyData.showableAll ds = true ∧ ((PyData.shownAll ds).map (·.length)).sum + 2 * ds.length ≤ wts xs ∧ PyData.depthAll ds ≤ dpts xs
  | [], _ => ⟨[], by unfold pyAs; rfl, by simp [PyData.showableAll], by simp [PyData.shownAll], by simp [PyData.depthAll]⟩
  | x :: xs, h => by
    unfold rOks at h
    obtain ⟨d, h1, h2, h4, h5⟩ := rok_py x h.1
    obtain ⟨ds, g1, g2, g4, g5⟩ := roks_py xs h.2
    refine ⟨d :: ds, by unfold pyAs; rw [h1, g1]; rfl, by simp [PyData.showableAll, h2, g2], ?_, by simp only [PyData.depthAll, dpts]; omega⟩
    rw [shownAll_sum]
    simp only [wts, List.length_cons]
    omega
theorem rokk_py : ∀ xs : List (Key × D), rOkk xs → ∃ ds, pyAk xs = some ds ∧ PyData.showableKv ds = true ∧ ((PyData.shownKv ds).map (·.length)).sum + 2 * ds.length ≤ wtk xs ∧ PyData.depthKv ds ≤ dptk xs
  | [], _ => ⟨[], by unfold pyAk; rfl, by simp [PyData.showableKv], by simp [PyData.shownKv], by simp [PyData.depthKv]⟩
  | (.inl i, x) :: xs, h => by
    unfold rOkk at h
    obtain ⟨d, h1, h2, h4, h5⟩ := rok_py x h.2.1
    obtain ⟨ds, g1, g2, g4, g5⟩ := rokk_py xs h.2.2
    have hi : (PyData.int i).shown.length ≤ 1921 := by simp only [PyData.shown]; exact int_text_len_1921 h.1
    refine ⟨(.int i, d) :: ds, by unfold pyAk; rw [h1, g1]; rfl, by simp [PyData.showableKv, PyData.showable, h2, g2, h.1], ?_, by simp only [PyData.depthKv, PyData.depth, dptk]; omega⟩
    rw [shownKv_sum]
    simp only [wtk, List.length_cons]
    omega
  | (.inr z, x) :: xs, h => by
    unfold rOkk at h
    obtain ⟨d, h1, h2, h4, h5⟩ := rok_py x h.2.1
    obtain ⟨ds, g1, g2, g4, g5⟩ := rokk_py xs h.2.2
    have hi : (PyData.str z).shown.length ≤ 10 * z.length + 2 := by simp only [PyData.shown]; exact StrLaws.reprText_len z h.1
    refine ⟨(.str z, d) :: ds, by unfold pyAk; rw [h1, g1]; rfl, by simp [PyData.showableKv, PyData.showable, h2, g2], ?_, by simp only [PyData.depthKv, PyData.depth, dptk]; omega⟩
    rw [shownKv_sum]
    simp only [wtk, List.length_cons]
    omega
end
/-- the repr of data -/
def reprA (x : D) : Str := match pyA x with
  | some d => d.shown
  | none => ⟨#[]⟩
def rpOk (x : D) : Prop := rOk x ∧ wt x ≤ 16000000 ∧ dpt x ≤ 50
def rReprA (K : PySem.W.Frag) : List V → Hp → VK → Prop := rReprD K
theorem call_reprA {X : Cx} (g : GOk X.base X.A) (hu : X.A.units + 64 < cLine) : CallR X (.builtin "repr") (rReprA X.K) := call_reprD g hu
theorem cad_reprA {c : Cd} : CaD c (rReprA c.K) fun ds k => ∃ x, ds = [x] ∧ rpOk x ∧ k (.d (.str (reprA x))) := cad_one fun B G H σ δ r1 v x Ψ Q F h1 e1 hf k => by
  obtain ⟨⟨ho, hw, hd⟩, kk⟩ := hf
  obtain ⟨d, q1, q2, q4, q5⟩ := rok_py x ho
  have er : reprA x = d.shown := by unfold reprA; rw [q1]
  rw [er] at kk
  exact ⟨v, x, d, rfl, view_repH F h1 e1, q1, q2, by omega, by omega, k _ _ G H kk (Ex.refl G) (Ex.refl H) F (rep_str (K := c.K) (G := G))⟩
end DL

/-! DL12: exceptions of own classes over an own base of ValueError. -/
namespace DL
open PySem PySem.Spec PyProof.Rows L2
open Evl (Ex)
section
variable {X : Cx} {e : Expr} {es : List Expr} {ta : TA} {p1 p2 pos : Pos} {B : Str} {CB : Addr} {mc : Value}
/-- Base.__init__(self, ..), Base's __init__ being ValueError's -/
theorem pe_meinit {pl : Sem Bool} (hg : Gl X B) (hm : X.mg B = some (.ref CB)) (rd : ClX.CRead X.K CB mc) (vV : PySem.W.findCls X.K (.ref CB) mc "__init__" = some (.val (.builtin "ValueError.__init__"))) (ha : PA X (e :: es) ta)
    (hc : eval (.Call (.Attribute (.Name B p1) "__init__" p2) (e :: es) [] pos) X.env = (do
      let ov ← eval (.Name B p1) X.env
      standAt p2.atName
      let (f, first) ← holding [ov] (getMethod ov "__init__" pl)
      callWith pos f first (backTo pos (starEach (e :: es) X.env)) (backToKw pos (keywordEach [] X.env))) := by rfl)
    (hdb : (B == ("__debug__" : Str)) = false := by decide) (he : starEach (e :: es) X.env = (false, eval e X.env) :: starEach es X.env := by rfl) (hpl : (backTo pos (starEach es X.env)).any (·.1) = false := by rfl) :
    PE X (.Call (.Attribute (.Name B p1) "__init__" p2) (e :: es) [] pos) (tVeI X.K ta) := by
  constructor
  intro pins s σ H Q I h
  refine PySem.W.methodCall_KW (ld_glob I hg hm ?_ hdb) hc
  refine PySem.W.method_cls I.kIn rd.ga (PySem.W.cls_value I.kIn rd.rd vV rfl ?_)
  show wpAny _ _ (callWith pos (Value.builtin "ValueError.__init__") [] (backTo pos (starEach (e :: es) X.env)) []) _ _ _
  refine PyProof.Rows.callWith_method1 (thn (ha.run pos pins _ σ H _ (I.tok _) h) fun us s1 hh => ?_) he hpl
  obtain ⟨vs, H1, I1, r1, a, C, ws, ev, hl, T, ea, q⟩ := hh
  subst ev
  obtain ⟨u0, ur, eu, ra, rw'⟩ : ∃ u0 ur, us = u0 :: ur ∧ RelV (.ref a) u0 ∧ Vals ws ur := by
    cases r1 with
    | @cons _ u0 _ ur ra rw' => exact ⟨u0, ur, rfl, ra, rw'⟩
  subst eu
  have e0 : u0 = Value.ref a := ra
  subst e0
  refine oinit_ok T I1 ea ?_ fun s' J => ⟨.non, H1, J, rfl, q⟩
  rw [← Paired.length rw', sizeLine_eq]
  exact Nat.le_trans hl (by decide)
end
/-- what an own exception's __init__ does -/
def spInit (K : PySem.W.Frag) (f : Str) : Sp := fun vs H Q _ => ∃ (a C : Addr) (v : V), vs = [.ref a, v] ∧ OexC K C ∧ PySem.W.findIn K (.ref C) f = some none ∧ H a = some (exo a C none) ∧
  ∀ dx, H dx = none → dx ≠ a → Q .non (upd (upd H dx (exd dx [(f, v)])) a (exo a C (some dx)))
theorem init_reads {K : PySem.W.Frag} {f : Str} {m : Str} {vs : List V} {N : List Str} {H : Hp} {Q : VK} {E : XK} (hN : N.length = 2) (h : spInit K f vs H Q E) :
    tSeq (tDrop (tVeI K (tCons (tVar 0) (tCons (tC (.str m)) tNil)))) (tOst K f (tVar 0) (tVar 1)) { nx := fun _ H' => Q .non H', rt := Q } (L2.start N vs) H := by
  obtain ⟨a, C, v, e, T, hf, ea, q⟩ := h
  subst e
  have es : L2.start N [.ref a, v] = [some (.ref a), some v] := by
    unfold L2.start
    rw [hN]
    rfl
  rw [es]
  exact ⟨_, rfl, a, C, [.str m], rfl, Nat.le_of_ble_eq_true rfl, T, ea, _, rfl, _, rfl, a, C, rfl, T, hf, .inl ⟨ea, fun dx h1 h2 => q dx h1 h2⟩⟩
end DL
namespace DL
open PySem PySem.Spec PyProof.Rows L2
open Evl (Ex)
/-! ### contracts that may raise -/
structure Cn where
  ad : Nat → Addr
  fl : Nat → Str
  bs : Addr
abbrev SpX := List Sl → (R → List Sl → Prop) → (Nat → D → Prop) → Prop
/-- an exception behind a call: its class, its dict with one field -/
def liftX (K : PySem.W.Frag) (cn : Cn) (S : SpX) : Sp := fun vs H Q X => ∃ B G as, Frame K B G H (vs.map some) as ∧
  S as (fun r as' => ∀ v G' H', Ex G G' → Frame K B G' H' (vs.map some) as' → RV K B G' H' as' r v → Q v H')
    (fun nm x => ∀ d v G' H', Ex G G' → Ex B H' → Ex G' H' → (∀ b, B b = none ∨ G' b = none) → G' d = some (.xd [(cn.fl nm, v)]) → Rep K G' x v → X (.ref (cn.ad nm)) (some d) H')
/-- what a body that may raise leans on: Ψ is raised from slots δ' -/
def XR (K : PySem.W.Frag) (cn : Cn) (Ψ : Nat → D → List Sl → Prop) (W : WX) (B G : Hp) : Prop := ∀ nm x δ' σ' d v G' H', Ψ nm x δ' → Ex G G' → Frame K B G' H' σ' δ' → G' d = some (.xd [(cn.fl nm, v)]) → Rep K G' x v → W (.ref (cn.ad nm)) (some d) σ' H'
abbrev cX (K : PySem.W.Frag) (cn : Cn) (Ψ : Nat → D → List Sl → Prop) (W : WX) : Cd := ⟨K, XR K cn Ψ W, fun _ _ _ e h nm x δ' σ' d v G' H' a b c d' e' => h nm x δ' σ' d v G' H' a (e.trans b) c d' e'⟩
/-- a wall round all that is no one's yet -/
def wall (G H : Hp) : Hp := fun b => if (G b).isSome = true then none else H b
theorem wall_some {G H : Hp} {b : Addr} {o : HO} (h : H b = some o) (g : G b = none) : wall G H b = some o := by
  unfold wall
  rw [if_neg (by rw [g]; exact Bool.false_ne_true)]
  exact h
theorem wall_of {G H : Hp} {b : Addr} {o : HO} (h : wall G H b = some o) : H b = some o ∧ G b = none := by
  unfold wall at h
  cases g : G b with
  | none => rw [g] at h; exact ⟨h, rfl⟩
  | some u => rw [g] at h; cases h
section
variable {K : PySem.W.Frag} {B G G' H H' : Hp} {σ : St} {δ as : List Sl} {vs : List V}
theorem wall_frame (F : Frame K B G H σ δ) (hs : SlsR K G H as (vs.map some)) (ho : owned as = []) : Frame K (wall G H) G H (vs.map some) as :=
  ⟨fun b o h => (wall_of h).1, F.exG, fun b => by
    cases e : wall G H b with
    | none => exact .inl rfl
    | some o => exact .inr (wall_of e).2, hs, fun a ha => (by rw [ho] at ha; cases ha), by rw [ho]; exact List.nodup_nil⟩
theorem wall_back (F : Frame K B G H σ δ) (eG : Ex G G') (eB : Ex (wall G H) H') (eG' : Ex G' H') (dis : ∀ b, wall G H b = none ∨ G' b = none) : Frame K B G' H' σ δ := by
  have thru : ∀ b o, H b = some o → G b = none → H' b = some o ∧ G' b = none := fun b o h g => by
    have w := wall_some h g
    refine ⟨eB b o w, ?_⟩
    rcases dis b with q | q
    · rw [w] at q; cases q
    · exact q
  have gB : ∀ b o, B b = some o → G b = none := fun b o h => by
    rcases F.dis b with q | q
    · rw [h] at q; cases q
    · exact q
  refine ⟨fun b o h => (thru b o (F.exB b o h) (gB b o h)).1, eG', fun b => ?_, F.sl.ex eG (fun a ha => ?_), fun a ha => ⟨(F.own a ha).1, ?_⟩, F.nd⟩
  · cases e : B b with
    | none => exact .inl rfl
    | some o => exact .inr (thru b o (F.exB b o e) (gB b o e)).2
  · obtain ⟨o, ho⟩ := F.there ha
    rw [ho]
    exact (thru a o ho (F.own a ha).2).1
  · obtain ⟨o, ho⟩ := F.there ha
    exact (thru a o ho (F.own a ha).2).2
theorem wall_new (F : Frame K B G H σ δ) (eG : Ex G G') {a : Addr} (h1 : wall G H a = none) (h2 : G' a = none) : B a = none ∧ a ∉ owned δ := by
  have g : G a = none := by
    cases e : G a with
    | none => rfl
    | some o => rw [eG a o e] at h2; cases h2
  have hH : H a = none := by
    cases e : H a with
    | none => rfl
    | some o => rw [wall_some e g] at h1; cases h1
  obtain ⟨q1, _, q3⟩ := F.fresh hH
  exact ⟨q1, q3⟩
end
end DL
namespace DL
open PySem PySem.Spec PyProof.Rows L2
open Evl (Ex)
section
variable {K : PySem.W.Frag} {cn : Cn} {Ψ : Nat → D → List Sl → Prop} {W : WX} {p : Bool} {δ : List Sl}
theorem slsR_datas {G H : Hp} : ∀ {ds : List D} {vs : List V}, RVs K G (ds.map R.d) vs → SlsR K G H (ds.map Sl.d) (vs.map some)
  | [], vs, h => by
    have e : vs = [] := h
    rw [e]
    exact rfl
  | d :: ds, vs, h => by
    obtain ⟨v, vr, e, h1, h2⟩ := h
    subst e
    exact ⟨some v, vr.map some, rfl, ⟨v, rfl, h1⟩, slsR_datas h2⟩
theorem owned_datas : ∀ ds : List D, owned (ds.map Sl.d) = []
  | [] => rfl
  | _ :: ds => owned_datas ds
/-- a call that may raise, its arguments data -/
theorem we_callX {S : SpX} {tr : TA} {Φ : R → List Sl → Prop} (h : WA (cX K cn Ψ W) false tr δ fun rs δ1 => ∃ ds : List DL.D, rs = ds.map DL.R.d ∧
    ∀ (P : R → List Sl → Prop) (Y : Nat → D → Prop), (∀ r as', ownOut r → Φ r δ1 → P r as') → (∀ nm x, Ψ nm x δ1 → Y nm x) → S (ds.map Sl.d) P Y) : WE (cX K cn Ψ W) false (tCallS (liftX K cn S) (L2.WE W) tr) δ Φ := by
  intro B G H σ Q F x k
  refine h B G H σ _ F x fun rs δ1 vs G1 H1 w e1 F1 rv p1 => ?_
  obtain ⟨ds, e, hS⟩ := w
  subst e
  refine ⟨wall G1 H1, G1, ds.map Sl.d, wall_frame F1 (slsR_datas rv) (owned_datas ds), hS _ _ (fun r as' ho q v G' H' eG F' rv' => ?_) fun nm y q d v G' H' eG eB eG' dis hd hr => ?_⟩
  · have Fb := wall_back F1 eG F'.exB F'.exG F'.dis
    refine k r δ1 v G' H' q (e1.trans eG) Fb ?_ fun z => nomatch z
    cases r with
    | d y => exact rv'
    | own a y =>
      obtain ⟨q1, q2, q3, q4, q5⟩ := rv'
      obtain ⟨n1, n2⟩ := wall_new F1 eG q3 q4
      exact ⟨q1, q2, n1, q4, n2⟩
    | bor i a => exact ho.elim
  · exact x nm y δ1 σ d v G' H' q (e1.trans eG) (wall_back F1 eG eB eG' dis) hd hr
/-- raise C(e), C's own __init__ keeping its field -/
theorem ws_raise {C : Addr} {ta : TA} {E : En} {nm : Nat} (hC : cn.ad nm = C) (T : OexC K C) (hf : PySem.W.findIn K (.ref C) (cn.fl nm) = some none)
    (h : WA (cX K cn Ψ W) false ta δ fun rs δ1 => ∃ x, rs = [.d x] ∧ Ψ nm x δ1) : WS (cX K cn Ψ W) (fun _ σ H => tMkO C (spInit K (cn.fl nm)) [] ta σ H fun cls d H' => W cls d σ H') δ E := by
  intro B G H σ Dd F x _
  refine h B G H σ _ F x fun rs δ1 vs G1 H1 w e1 F1 rv p1 => ?_
  obtain ⟨y, e, q⟩ := w
  subst e
  obtain ⟨v, vr, ev, h1, h2⟩ := rv
  have e3 : vr = [] := h2
  subst e3
  subst ev
  refine ⟨Nat.le_of_ble_eq_true rfl, fun a ha => ⟨a, C, v, rfl, T, hf, upd_same, fun dx h3 h4 => ?_⟩⟩
  have hdx : H1 dx = none := by rw [upd_ne h4] at h3; exact h3
  refine ⟨rfl, dx, [(cn.fl nm, v)], upd_same, by rw [upd_ne h4, upd_same], hdx, ?_⟩
  have eh : upd (del (upd (upd (upd H1 a (exo a C none)) dx (exd dx [(cn.fl nm, v)])) a (exo a C (some dx))) a) dx (.xd [(cn.fl nm, v)]) = upd H1 dx (.xd [(cn.fl nm, v)]) := by
    funext b
    by_cases q1 : b = dx
    · subst q1; rw [upd_same, upd_same]
    · rw [upd_ne q1, upd_ne q1]
      unfold del
      by_cases q2 : b = a
      · rw [if_pos q2, q2, ha]
      · rw [if_neg q2, upd_ne q2, upd_ne q1, upd_ne q2]
  rw [eh]
  subst hC
  have hG := (F1.fresh hdx).2.1
  exact x nm y δ1 σ dx v _ _ q (e1.trans (Ex.new hG)) (F1.laid hdx) upd_same (h1.mono (Ex.new hG))
end
end DL
namespace DL
open PySem PySem.Spec PyProof.Rows L2
open Evl (Ex)
/-! ### defs that may raise -/
section
variable {P : Program} {w : World} {K : PySem.W.Frag} {mg : Str → Option Value} {base : Heap}
theorem okGX {x qual : Str} {st : Stmt} {f : Addr} {fd : FuncData} {N ps : List Str} {k : Nat} {sp : Sp} (F : Fun K x qual st f fd) (S : FnScope N ps (defScope st)) (len : ∀ vs H Q E, sp vs H Q E → vs.length = ps.length)
    (hb : ∀ (cdv : Value) (A : Around) (outer : List Env) (s : Shared) (H : Hp) (vs : List V) (Q : VK) (E : XK), GOk base A → Room k (A.deeper (envOfC qual (defScope st) s.heap.objs.size f cdv)) → sp vs H Q E →
      ∃ t, PSs (cxOf (L2.CX P w) P w K mg base N qual (defScope st) f cdv A outer s H E) (defBody st) t ∧ t { nx := fun _ H' => Q .non H', rt := Q } (L2.start N vs) H) : FnG P w K mg base (L2.CX P w) (k + 1) f fd ps sp := by
  obtain ⟨_, _, _, _, _, _, cdv, _, _, e, lk, hcd⟩ := F.ex
  subst e
  exact fnG_of lk hcd S len fun A outer s H vs Q E g r q => hb cdv A outer s H vs Q E g r q
theorem tkX {N : List Str} {qual : Str} {scope : Scope} {f : Addr} {cd : Value} {A : Around} {outer : List Env} {s : Shared} {H : Hp} {E : XK} : Takes (cxOf (L2.CX P w) P w K mg base N qual scope f cd A outer s H E) (fun cls d _ H => E cls d H) := takes_of rfl rfl rfl rfl
theorem psX {N : List Str} {qual : Str} {scope : Scope} {f : Addr} {cd : Value} {A : Around} {outer : List Env} {s : Shared} {H : Hp} {E : XK} :
    PassesOwn (model P w) (cxOf (L2.CX P w) P w K mg base N qual scope f cd A outer s H E).A (cxOf (L2.CX P w) P w K mg base N qual scope f cd A outer s H E).env (cxOf (L2.CX P w) P w K mg base N qual scope f cd A outer s H E).xe := passes_of rfl
end
section
variable {X : Cx} {CX : CXT} {k : Nat} {f : Addr} {fd : FuncData} {ps : List Str} {sp : Sp} {E : L2.St → XK} {x : Str} {p pos : Pos} {e : Expr} {es : List Expr} {t : TA}
theorem pe_callSG (F : FnG X.prog X.w X.K X.mg X.base CX k f fd ps sp) (g : GOk X.base X.A) (hr : Room k X.A) (hg : Gl X x) (hm : X.mg x = some (.ref f)) (hk : PySem.W.keepIn X.K (.ref f) = true) (hb : Binds X.K fd ps []) (hx : ∀ σ, PassesAt CX X σ (E σ))
    (ha : PA X (e :: es) t) (hdb : (x == ("__debug__" : Str)) = false := by decide) (he : starEach (e :: es) X.env = (false, eval e X.env) :: starEach es X.env := by rfl) (hpl : (backTo pos (starEach es X.env)).any (·.1) = false := by rfl) : PE X (.Call (.Name x p) (e :: es) [] pos) (tCallS sp E t) := by
  constructor
  intro pins s σ H Q I h
  refine wpAny_Call_Name_kw (ld_glob I hg hm (PySem.W.callWith_K (h₀ := X.base) I.ok.mod.kin hk (thn (ha.run pos pins s σ H _ I h) fun us s1 ⟨vs, H1, I1, r, q⟩ => ⟨I1.kIn, ?_⟩) he hpl) hdb)
  have many : us.length = ps.length := by rw [← r.length]; exact F.len _ _ _ _ q
  have b := hb s1 us I1.kIn (by rw [List.append_nil]; exact many)
  rw [List.append_nil] at b
  refine wpAny_call (codeAny_mono (F.run X.A X.stack s1 H1 ⟨us, []⟩ us vs Q (E σ) g hr I1.env0 b r q) fun res s' q' => ?_)
  match res, q' with
  | .error ex, q' => exact hx σ pins H1 s1 ex s' I1 q'
  | .ok (.ret u), q' => exact I1.after q'
end
section
variable {K : PySem.W.Frag} {cn : Cn}
theorem liftX_len {S : SpX} {n : Nat} (hl : ∀ as Φ Y, S as Φ Y → as.length = n) {vs : List V} {H : Hp} {Q : VK} {X : XK} (h : liftX K cn S vs H Q X) : vs.length = n := by
  obtain ⟨B, G, as, F, hS⟩ := h
  have e := F.sl.len
  rw [← hl as _ _ hS, ← e, List.length_map]
/-- a def's words, the def may raise -/
def WsX (cn : Cn) (S : SpX) (t : PySem.W.Frag → WX → TS) (pad : List Sl) : Prop := ∀ (K : PySem.W.Frag) (W : WX) (as : List Sl) (Φ : R → List Sl → Prop) (Y : Nat → D → Prop), S as Φ Y →
  WS (cX K cn (fun nm x _ => Y nm x) W) (t K W) (as ++ pad) ⟨RetD as Φ (.d .non), RetD as Φ, fun _ => False, fun _ => False⟩
theorem liftX_body {S : SpX} {t : PySem.W.Frag → WX → TS} {n m : Nat} {N : List Str} {vs : List V} {H : Hp} {Q : VK} {X : XK} (hl : ∀ as Φ Y, S as Φ Y → as.length = n) (hm : N.length = n + m) (hb : WsX cn S t (List.replicate m .no)) (h : liftX K cn S vs H Q X) :
    t K (fun cls d _ H => X cls d H) { nx := fun _ H' => Q .non H', rt := Q } (L2.start N vs) H := by
  obtain ⟨B, G, as, F, hS⟩ := h
  have ha := hl as _ _ hS
  have hv : as.length = vs.length := by have e := F.sl.len; simpa using e.symm
  have ow : owned (as ++ List.replicate m .no) = owned as := by rw [owned_append, owned_no, List.append_nil]
  have F0 : Frame K B G H (L2.start N vs) (as ++ List.replicate m .no) := by
    refine ⟨F.exB, F.exG, F.dis, ?_, by rw [ow]; exact F.own, by rw [ow]; exact F.nd⟩
    unfold L2.start
    refine F.sl.append ?_
    have z := SlsR.nos (K := K) (G := G) (H := H) (List.replicate (N.length - vs.length) none)
    rw [List.length_replicate, show N.length - vs.length = m by omega] at z
    rw [show N.length - vs.length = m by omega]
    exact z
  have back : ∀ (δ' : List Sl) (σ' : L2.St) (G' H' : Hp), parOk as δ' → Ex G G' → Frame K B G' H' σ' δ' → Frame K B G' H' (vs.map some) (parBack as δ') := fun δ' σ' G' H' ok e F' =>
    ⟨F'.exB, F'.exG, F'.dis, par_sl F.sl ok F'.sl e, fun a ha => F'.own a ((parBack_sub ok).subset ha), F'.nd.sublist (parBack_sub ok)⟩
  refine hb K _ as _ _ hS B G H (L2.start N vs) _ F0 (fun nm x δ' σ' d v G' H' q eG F' hd hr => q d v G' H' eG F'.exB F'.exG F'.dis hd hr) ⟨fun δ' σ' G' H' q eG F' => ?_, fun r δ' v σ' G' H' q eG F' rv => ?_, fun _ _ _ _ q => q.elim, fun _ _ _ _ q => q.elim⟩
  · exact q.2 .non G' H' eG (back δ' σ' G' H' q.1 eG F') (rep_non (K := K) (G := G'))
  · obtain ⟨ok, q⟩ := q
    match r, q, rv with
    | .d x, q, rv => exact q v G' H' eG (back δ' σ' G' H' ok eG F') rv
    | .own a x, q, rv =>
      obtain ⟨e1, h1, h2, h3, h4⟩ := rv
      exact q v G' H' eG (back δ' σ' G' H' ok eG F') ⟨e1, h1, h2, h3, fun z => h4 ((parBack_sub ok).subset z)⟩
    | .bor i a, q, rv =>
      obtain ⟨hi, x, ex, q⟩ := q
      obtain ⟨_, _, h3⟩ := F'.get ex
      exact q v G' H' eG (back δ' σ' G' H' ok eG F') ⟨rv.1, h3.2, (F'.own a (owned_get ex)).1, (F'.own a (owned_get ex)).2, parBack_not F'.nd ok hi ex⟩
end
end DL
namespace DL
open PySem PySem.Spec PyProof.Rows L2
open Evl (Ex)
/-! ### try, except X as n -/
/-- in an except suite: the exception's dict -/
abbrev cS (K : PySem.W.Frag) (d : Addr) (f : Str) (v : V) (x : D) : Cd := ⟨K, fun _ G => G d = some (.xd [(f, v)]) ∧ Rep K G x v, fun _ _ _ e h => ⟨e _ _ h.1, h.2.mono e⟩⟩
section
variable {K : PySem.W.Frag} {cn : Cn} {p : Bool} {δ : List Sl}
theorem ws_try {i : Nat} {tb : WX → TS} {ts : Addr → Value → Option Addr → TS} {cE : Value} {Ψ : Nat → D → List Sl → Prop} {E : En} (hb : ∀ W : WX, WS (cX K cn Ψ W) (tb W) δ E)
    (hs : ∀ nm x δ', Ψ nm x δ' → PySem.W.exmOne K (.ref (cn.ad nm)) cE = some true ∧ ∀ (a d : Addr) (v : V), WS (cS K d (cn.fl nm) v x) (ts a (.ref (cn.ad nm)) (some d)) (δ'.set i (.d (.ptr a)))
      ⟨fun δ3 => E.nx (δ3.set i .no), E.rt, fun δ3 => E.bk (δ3.set i .no), fun δ3 => E.ct (δ3.set i .no)⟩) :
    WS (c0 K) (fun D σ H => tb (wAs K cE i ts (fun _ _ _ _ => False) D) D σ H) δ E := by
  intro B G H σ Dn F x hE
  refine hb _ B G H σ Dn F (fun nm y δ' σ' d v G' H' q eG F' hd hr => ?_) ⟨hE.nx, hE.rt, hE.bk, hE.ct⟩
  obtain ⟨h1, h2⟩ := hs nm y δ' q
  refine ⟨true, h1, fun _ a ha => ?_, fun z => nomatch z⟩
  have Fs : Frame K B G' H' (σ'.set i (some (.ref a))) (δ'.set i (.d (.ptr a))) := frame_set (r := .d (.ptr a)) F' (by show Rep K G' (.ptr a) (.ref a); unfold Rep; rfl) rfl
  refine h2 a d v B G' H' _ _ Fs ⟨hd, hr⟩ ⟨fun δ3 σ3 G3 H3 w e F3 => ?_, fun r δ3 u σ3 G3 H3 w e F3 rv => hE.rt r δ3 u σ3 G3 H3 w (eG.trans e) F3 rv, fun δ3 σ3 G3 H3 w e F3 => ?_, fun δ3 σ3 G3 H3 w e F3 => ?_⟩
  · exact hE.nx _ _ G3 H3 w (eG.trans e) (frame_wipe F3 [i])
  · exact hE.bk _ _ G3 H3 w (eG.trans e) (frame_wipe F3 [i])
  · exact hE.ct _ _ G3 H3 w (eG.trans e) (frame_wipe F3 [i])
/-- e.f, e the exception that the suite holds -/
theorem we_xf {a d C : Addr} {f : Str} {v : V} {x : D} {te : TE} {Φ : R → List Sl → Prop} (h : WE (cS K d f v x) p te δ fun r δ1 => r = .d (.ptr a) ∧ Φ (.d x) δ1) : WE (cS K d f v x) p (tXf a (.ref C) (some d) C f te) δ Φ := by
  intro B G H σ Q F xr k
  refine h B G H σ _ F xr fun r δ1 u G1 H1 w e1 F1 rv p1 => ?_
  obtain ⟨er, w⟩ := w
  subst er
  have eu : u = .ref a := by
    have z : Rep K G1 (.ptr a) u := rv
    unfold Rep at z
    exact z
  refine ⟨eu, rfl, d, [(f, v)], v, rfl, F1.exG d _ (e1 d _ xr.1), ?_, k _ δ1 v G1 H1 w e1 F1 (xr.2.mono e1) p1⟩
  simp [List.lookup]
/-- isinstance(e, C) -/
def rIsED (K : PySem.W.Frag) (C a d : Addr) : List V → Hp → VK → Prop := fun xs H Q => ∃ (C' : Addr) (b : Bool) (fs : List (Str × V)), xs = [.ref a, .ref C'] ∧ H d = some (.xd fs) ∧ PySem.W.kitOne K (.ref C) (.ref C') = some b ∧ Q (.bl b) H
theorem call_isED {X : Cx} {a C d : Addr} {oe : Obj} {pn : List (Addr × Obj)} {gt : Option Value} (hcl : (PySem.W.clsIn X.K C).isSome = true) (hga : PySem.W.findIn X.K (.ref C) "__getattribute__" = some (some (.builtin "BaseException.__getattribute__"))) (hgt : PySem.W.findIn X.K (.ref C) "__getattr__" = some gt)
    (hsub : PySem.W.subIn X.K (.ref C) (.type "BaseException") = some true) (ha : PySem.W.findIn X.K (.ref C) "__class__" = some (some (.builtin "object.__class__"))) (hn : PySem.W.specialIn X.K (.builtin "object.__class__") "__get__" = some (some (.builtin "getset_descriptor.__get__")))
    (htk : PySem.W.takesIn X.K (.builtin "object.__class__") = some true) (hm : PySem.W.mroIn X.K C (.type "object") = some true) (hz : Zc (.ref C) (some d) oe) (hf : ∃ vs, oe.data = .fields vs) : CallR (X.suite a ((a, oe) :: pn)) (.builtin "isinstance") (rIsED X.K C a d) := by
  intro pins s σ H xs us Q I r h
  obtain ⟨C', b, fs, e, hd, hk, q⟩ := h
  subst e
  obtain ⟨u1, u2, eu, r1, r2⟩ := vals2 r
  subst eu
  have e1 : u1 = .ref a := r1
  have e2 : u2 = .ref C' := r2
  subst e1 e2
  obtain ⟨hget, _⟩ := I.pin (a, oe) (List.mem_append_left _ List.mem_cons_self)
  obtain ⟨vs, hv⟩ := hf
  obtain ⟨mA, hns, _⟩ := (show ObjOk X.prog X.w H s.heap d (.xd fs) from I.hok d _ hd)
  obtain ⟨od, ho, _⟩ := lookIn_ns hns
  have J : PySem.W.InstAt s.heap a oe C (some od) := ⟨hget, hz.1, by unfold PySem.W.notCls; rw [hv] <;> rfl, by rw [hz.2]; exact ho⟩
  exact PySem.W.kia_one (PySem.W.kitx_exc hcl hga hgt hsub ha hn htk hm) I.kIn J hk (fun z => nomatch z) fun tk => ⟨.bl b, H, I.kept (t' := tk) fun _ _ z => z, rfl, q⟩
theorem we_isE {a d C : Addr} {f : Str} {v : V} {x : D} {tr : TA} {Φ : R → List Sl → Prop} (h : WA (cS K d f v x) p tr δ fun rs δ1 => ∃ (C' : Addr) (b : Bool), rs = [.d (.ptr a), .d (.ptr C')] ∧ PySem.W.kitOne K (.ref C) (.ref C') = some b ∧ Φ (.d (.bl b)) δ1) :
    WE (cS K d f v x) p (tCB (rIsED K C a d) tr) δ Φ := by
  intro B G H σ Q F xr k
  refine h B G H σ _ F xr fun rs δ1 vs G1 H1 w e1 F1 rv p1 => ?_
  obtain ⟨C', b, er, hk, w⟩ := w
  subst er
  obtain ⟨u, ur, eu, h1, u2, ur2, eu2, h2, h3⟩ := rv
  have e3 : ur2 = [] := h3
  subst e3 eu2 eu
  have q1 : u = .ref a := by
    have z : Rep K G1 (.ptr a) u := h1
    unfold Rep at z
    exact z
  have q2 : u2 = .ref C' := by
    have z : Rep K G1 (.ptr C') u2 := h2
    unfold Rep at z
    exact z
  subst q1 q2
  exact ⟨C', b, _, rfl, F1.exG d _ (e1 d _ xr.1), hk, k _ δ1 _ G1 H1 w e1 F1 (rep_bl (K := K) (G := G1)) p1⟩
end
end DL

/-! DL13: kept empty: what stood here is in DL11. -/

/-! DL14: an except suite that asks which class it holds. -/
namespace DL
open PySem PySem.Spec PyProof.Rows L2
open Evl (Ex)
/-- what the text says of an exception's class, its field f -/
structure ExcAll (K : PySem.W.Frag) (C : Addr) (f : Str) : Prop where
  oex : OexC K C
  xf : XfC K C
  fno : PySem.W.findIn K (.ref C) f = some none
  hcl : (PySem.W.clsIn K C).isSome = true
  hat : PySem.W.findIn K (.ref C) "__class__" = some (some (.builtin "object.__class__"))
  hm : PySem.W.mroIn K C (.type "object") = some true
  hn : PySem.W.specialIn K (.builtin "object.__class__") "__get__" = some (some (.builtin "getset_descriptor.__get__"))
  htk : PySem.W.takesIn K (.builtin "object.__class__") = some true
def rIsX (K : PySem.W.Frag) (f : Str) (a : Addr) (cls : Value) (d : Option Addr) : List V → Hp → VK → Prop := fun xs H Q => ∃ C dd, cls = .ref C ∧ d = some dd ∧ ExcAll K C f ∧ rIsED K C a dd xs H Q
theorem call_isX {X : Cx} {a : Addr} {f : Str} {cls : Value} {d : Option Addr} {oe : Obj} {pn : List (Addr × Obj)} (hz : Zc cls d oe) (hf : ∃ vs, oe.data = .fields vs) : CallR (X.suite a ((a, oe) :: pn)) (.builtin "isinstance") (rIsX X.K f a cls d) := by
  intro pins s σ H xs us Q I r h
  obtain ⟨C, dd, ec, ed, T, q⟩ := h
  subst ec ed
  exact call_isED T.hcl T.xf.ga T.xf.gg T.xf.exC T.hat T.hn T.htk T.hm hz hf pins s σ H xs us Q I r q
def tXfX (K : PySem.W.Frag) (a : Addr) (cls : Value) (d : Option Addr) (f : Str) (te : TE) : TE := fun σ H Q => ∃ C dd, cls = .ref C ∧ d = some dd ∧ ExcAll K C f ∧ tXf a cls d C f te σ H Q
theorem pe_xfX {X : Cx} {a : Addr} {oe : Obj} {cls : Value} {d : Option Addr} {pn : List (Addr × Obj)} {e : Expr} {te : TE} {pos : Pos} {n : Str} (hz : Zc cls d oe) (hf : ∃ vs, oe.data = .fields vs) (he : PE (X.suite a ((a, oe) :: pn)) e te)
    (hb : attributeBase e n X.env (eval e X.env) = eval e X.env := by rfl) : PE (X.suite a ((a, oe) :: pn)) (.Attribute e n pos) (tXfX X.K a cls d n te) := by
  constructor
  intro pins s σ H Q I h
  obtain ⟨C, dd, _, _, T, q⟩ := h
  exact (pe_xf (pos := pos) T.xf T.fno hz hf he hb).run pins s σ H Q I q
section
variable {K : PySem.W.Frag} {p : Bool} {δ : List Sl} {a d C : Addr} {f : Str} {v : V} {x : D}
theorem we_xfX {te : TE} {Φ : R → List Sl → Prop} (T : ExcAll K C f) (h : WE (cS K d f v x) p te δ fun r δ1 => r = .d (.ptr a) ∧ Φ (.d x) δ1) : WE (cS K d f v x) p (tXfX K a (.ref C) (some d) f te) δ Φ := fun B G H σ Q F xr k =>
  ⟨C, d, rfl, rfl, T, we_xf (C := C) h B G H σ Q F xr k⟩
theorem we_isX {tr : TA} {Φ : R → List Sl → Prop} (T : ExcAll K C f) (h : WA (cS K d f v x) p tr δ fun rs δ1 => ∃ (C' : Addr) (b : Bool), rs = [.d (.ptr a), .d (.ptr C')] ∧ PySem.W.kitOne K (.ref C) (.ref C') = some b ∧ Φ (.d (.bl b)) δ1) :
    WE (cS K d f v x) p (tCB (rIsX K f a (.ref C) (some d)) tr) δ Φ := by
  intro B G H σ Q F xr k
  refine h B G H σ _ F xr fun rs δ1 vs G1 H1 w e1 F1 rv p1 => ?_
  obtain ⟨C', b, er, hk, w⟩ := w
  subst er
  obtain ⟨u, ur, eu, h1, u2, ur2, eu2, h2, h3⟩ := rv
  have e3 : ur2 = [] := h3
  subst e3 eu2 eu
  have q1 : u = .ref a := by
    have z : Rep K G1 (.ptr a) u := h1
    unfold Rep at z
    exact z
  have q2 : u2 = .ref C' := by
    have z : Rep K G1 (.ptr C') u2 := h2
    unfold Rep at z
    exact z
  subst q1 q2
  exact ⟨C, d, rfl, rfl, T, C', b, _, rfl, F1.exG d _ (e1 d _ xr.1), hk, k _ δ1 _ G1 H1 w e1 F1 (rep_bl (K := K) (G := G1)) p1⟩
end
end DL

/-! DL15: what the text says of an exception's class, and its __init__. -/
namespace DL
open PySem PySem.Spec PyProof.Rows L2
open Evl (Ex)
/-- a class of the text, its own __init__ the def st, f_ its function -/
structure ExcDef (K : PySem.W.Frag) (mg : Str → Option Value) (C : Addr) (nm qual : Str) (st : Stmt) (f : Str) (fI : Addr) (fd : FuncData) : Prop where
  all : ExcAll K C f
  g : mg nm = some (.ref C)
  iC : PySem.W.findIn K (.ref C) "__init__" = some (some (.ref fI))
  tI : PySem.W.typeIn K (.ref fI) = some (.type "function")
  fn : Fun K "__init__" qual st fI fd
  b : Binds K fd ["self", f] []
/-- the base of all of them -/
structure ExcBase (K : PySem.W.Frag) (mg : Str → Option Value) (B : Addr) (nm : Str) : Prop where
  g : mg nm = some (.ref B)
  rd : ClX.CRead K B (.type "type")
  vV : PySem.W.findCls K (.ref B) (.type "type") "__init__" = some (.val (.builtin "ValueError.__init__"))
theorem spInit_len {K : PySem.W.Frag} {f : Str} {vs : List V} {H : Hp} {Q : VK} {E : XK} (h : spInit K f vs H Q E) : vs.length = 2 := by
  obtain ⟨_, _, _, e, _⟩ := h
  rw [e]
  rfl
/-- words about a def, the exceptions' facts known -/
def WsC {Fx : PySem.W.Frag → Cn → Prop} (S : SpD) (t : PySem.W.Frag → Cn → TS) (pad : List Sl) : Prop := ∀ (K : PySem.W.Frag) (cn : Cn) (as : List Sl) (Φ : R → List Sl → Prop), Fx K cn → S as Φ → W (c0 K) (t K cn) (as ++ pad) (RetD as Φ (.d .non)) (RetD as Φ) (fun _ => False) (fun _ => False)
def WsXC {Fx : PySem.W.Frag → Cn → Prop} (S : SpX) (t : PySem.W.Frag → Cn → WX → TS) (pad : List Sl) : Prop := ∀ (K : PySem.W.Frag) (cn : Cn) (Wx : WX) (as : List Sl) (Φ : R → List Sl → Prop) (Y : Nat → D → Prop), Fx K cn → S as Φ Y →
  W (cX K cn (fun nm x _ => Y nm x) Wx) (t K cn Wx) (as ++ pad) (RetD as Φ (.d .non)) (RetD as Φ) (fun _ => False) (fun _ => False)
theorem liftX_WsC {Fx : PySem.W.Frag → Cn → Prop} {K : PySem.W.Frag} {cn : Cn} {S : SpX} {t : PySem.W.Frag → Cn → WX → TS} {n m : Nat} {N : List Str} {vs : List V} {H : Hp} {Q : VK} {X : XK} (fx : Fx K cn) (hl : ∀ as Φ Y, S as Φ Y → as.length = n) (hm : N.length = n + m)
    (hb : WsXC (Fx := Fx) S t (List.replicate m .no)) (h : liftX K cn S vs H Q X) : t K cn (fun cls d _ H => X cls d H) { nx := fun _ H' => Q .non H', rt := Q } (L2.start N vs) H := by
  obtain ⟨B, G, as, F, hS⟩ := h
  have ha := hl as _ _ hS
  have hv : as.length = vs.length := by have e := F.sl.len; simpa using e.symm
  have ow : owned (as ++ List.replicate m .no) = owned as := by rw [owned_append, owned_no, List.append_nil]
  have F0 : Frame K B G H (L2.start N vs) (as ++ List.replicate m .no) := by
    refine ⟨F.exB, F.exG, F.dis, ?_, by rw [ow]; exact F.own, by rw [ow]; exact F.nd⟩
    unfold L2.start
    refine F.sl.append ?_
    have z := SlsR.nos (K := K) (G := G) (H := H) (List.replicate (N.length - vs.length) none)
    rw [List.length_replicate, show N.length - vs.length = m by omega] at z
    rw [show N.length - vs.length = m by omega]
    exact z
  have back : ∀ (δ' : List Sl) (σ' : L2.St) (G' H' : Hp), parOk as δ' → Ex G G' → Frame K B G' H' σ' δ' → Frame K B G' H' (vs.map some) (parBack as δ') := fun δ' σ' G' H' ok e F' =>
    ⟨F'.exB, F'.exG, F'.dis, par_sl F.sl ok F'.sl e, fun a ha => F'.own a ((parBack_sub ok).subset ha), F'.nd.sublist (parBack_sub ok)⟩
  refine hb K cn _ as _ _ fx hS B G H (L2.start N vs) _ F0 (fun nm x δ' σ' d v G' H' q eG F' hd hr => q d v G' H' eG F'.exB F'.exG F'.dis hd hr) ⟨fun δ' σ' G' H' q eG F' => ?_, fun r δ' v σ' G' H' q eG F' rv => ?_, fun _ _ _ _ q => q.elim, fun _ _ _ _ q => q.elim⟩
  · exact q.2 .non G' H' eG (back δ' σ' G' H' q.1 eG F') (rep_non (K := K) (G := G'))
  · obtain ⟨ok, q⟩ := q
    match r, q, rv with
    | .d x, q, rv => exact q v G' H' eG (back δ' σ' G' H' ok eG F') rv
    | .own a x, q, rv =>
      obtain ⟨e1, h1, h2, h3, h4⟩ := rv
      exact q v G' H' eG (back δ' σ' G' H' ok eG F') ⟨e1, h1, h2, h3, fun z => h4 ((parBack_sub ok).subset z)⟩
    | .bor i a, q, rv =>
      obtain ⟨hi, x, ex, q⟩ := q
      obtain ⟨_, _, h3⟩ := F'.get ex
      exact q v G' H' eG (back δ' σ' G' H' ok eG F') ⟨rv.1, h3.2, (F'.own a (owned_get ex)).1, (F'.own a (owned_get ex)).2, parBack_not F'.nd ok hi ex⟩
theorem lift_WsC {Fx : PySem.W.Frag → Cn → Prop} {K : PySem.W.Frag} {cn : Cn} {S : SpD} {t : PySem.W.Frag → Cn → TS} {n m : Nat} {Nm : List Str} {vs : List V} {H : Hp} {Q : VK} {X : XK} (fx : Fx K cn) (hl : ∀ as Φ, S as Φ → as.length = n) (hm : Nm.length = n + m)
    (hb : WsC (Fx := Fx) S t (List.replicate m .no)) (h : lift K S vs H Q X) : t K cn { nx := fun _ H' => Q .non H', rt := Q } (L2.start Nm vs) H := lift_W h fun as Φ hS => by
  have e : Nm.length - as.length = m := by rw [hl as Φ hS, hm]; omega
  rw [e]
  exact hb K cn as Φ fx hS
/-- a call of a def that may raise, where it does not -/
theorem we_callX0 {c : Cd} {cn : Cn} {p : Bool} {δ : List Sl} {S : SpX} {tr : TA} {X : XK} {Φ : R → List Sl → Prop} (h : WA c false tr δ fun rs δ1 => ∃ ds : List DL.D, rs = ds.map DL.R.d ∧
    ∀ (P : R → List Sl → Prop) (Y : Nat → D → Prop), (∀ r as', ownOut r → Φ r δ1 → P r as') → S (ds.map Sl.d) P Y) : WE c false (tCall (liftX c.K cn S) [] X tr) δ Φ := by
  intro B G H σ Q F x k
  refine h B G H σ _ F x fun rs δ1 vs G1 H1 w e1 F1 rv p1 => ?_
  obtain ⟨ds, e, hS⟩ := w
  subst e
  show liftX c.K cn S (vs ++ []) H1 Q X
  rw [List.append_nil]
  refine ⟨wall G1 H1, G1, ds.map Sl.d, wall_frame F1 (slsR_datas rv) (owned_datas ds), hS _ _ fun r as' ho q v G' H' eG F' rv' => ?_⟩
  refine k r δ1 v G' H' q (e1.trans eG) (wall_back F1 eG F'.exB F'.exG F'.dis) ?_ fun z => nomatch z
  match r, rv', ho with
  | .d y, rv', _ => exact rv'
  | .own a y, rv', _ =>
    obtain ⟨q1, q2, q3, q4, q5⟩ := rv'
    obtain ⟨n1, n2⟩ := wall_new F1 eG q3 q4
    exact ⟨q1, q2, n1, q4, n2⟩
end DL
namespace DL
open PySem PySem.Spec PyProof.Rows L2
open Evl (Ex)
theorem we_cp {c : Cd} {p : Bool} {δ : List Sl} {a : Addr} {Φ : R → List Sl → Prop} (q : Φ (.d (.ptr a)) δ) : WE c p (tC (.ref a)) δ Φ := fun B G H σ Q F xr k =>
  k _ δ _ G H q (Ex.refl G) F (by show Rep c.K G (.ptr a) (.ref a); unfold Rep; rfl) fun _ => ⟨rfl, Ex.refl H⟩
section
variable {K : PySem.W.Frag} {cn : Cn} {Ψ : Nat → D → List Sl → Prop} {Wx : WX} {δ : List Sl} {N B C : List Sl → Prop} {Rt : R → List Sl → Prop}
theorem w_raiseN {nm : Nat} {f : Str} {ta : TA} (T : ExcAll K (cn.ad nm) (cn.fl nm)) (hf : cn.fl nm = f) (h : WA (cX K cn Ψ Wx) false ta δ fun rs δ1 => ∃ x, rs = [.d x] ∧ Ψ nm x δ1) :
    W (cX K cn Ψ Wx) (fun _ σ H => tMkO (cn.ad nm) (spInit K f) [] ta σ H fun cls d H' => Wx cls d σ H') δ N Rt B C := by
  subst hf
  exact ws_raise rfl T.oex T.fno h
theorem w_try' {i : Nat} {tb : WX → TS} {ts : Addr → Value → Option Addr → TS} {cE : Value} (Ψ : Nat → D → List Sl → Prop) (hb : ∀ Wx : WX, W (cX K cn Ψ Wx) (tb Wx) δ N Rt B C)
    (hs : ∀ nm x δ', Ψ nm x δ' → PySem.W.exmOne K (.ref (cn.ad nm)) cE = some true ∧ ∀ (a d : Addr) (v : V), W (cS K d (cn.fl nm) v x) (ts a (.ref (cn.ad nm)) (some d)) (δ'.set i (.d (.ptr a))) (fun δ3 => N (δ3.set i .no)) Rt (fun δ3 => B (δ3.set i .no)) (fun δ3 => C (δ3.set i .no))) :
    W (c0 K) (fun D σ H => tb (wAs K cE i ts (fun _ _ _ _ => False) D) D σ H) δ N Rt B C := ws_try (Ψ := Ψ) hb hs
end
end DL
namespace DL
open PySem PySem.Spec PyProof.Rows L2
/-- try: .. except (the class cE) as the i-th name: .. -/
def tTry (K : PySem.W.Frag) (cE : Value) (i : Nat) (tb : WX → TS) (ts : Addr → Value → Option Addr → TS) : TS := fun D σ H => tb (wAs K cE i ts (fun _ _ _ _ => False) D) D σ H
theorem w_try {K : PySem.W.Frag} {cn : Cn} {δ : List Sl} {N B C : List Sl → Prop} {Rt : R → List Sl → Prop} {i : Nat} {tb : WX → TS} {ts : Addr → Value → Option Addr → TS} {cE : Value} (Ψ : Nat → D → List Sl → Prop) (hb : ∀ Wx : WX, W (cX K cn Ψ Wx) (tb Wx) δ N Rt B C)
    (hs : ∀ nm x δ', Ψ nm x δ' → PySem.W.exmOne K (.ref (cn.ad nm)) cE = some true ∧ ∀ (a d : Addr) (v : V), W (cS K d (cn.fl nm) v x) (ts a (.ref (cn.ad nm)) (some d)) (δ'.set i (.d (.ptr a))) (fun δ3 => N (δ3.set i .no)) Rt (fun δ3 => B (δ3.set i .no)) (fun δ3 => C (δ3.set i .no))) :
    W (c0 K) (tTry K cE i tb ts) δ N Rt B C := w_try' Ψ hb hs
end DL

/-! DL16: try with several clauses, each with or without a name. -/
namespace DL
open PySem PySem.Spec PyProof.Rows L2
/-- one clause: its class, its name's slot, its suite -/
abbrev Cl := Value × Option Nat × (Addr → Value → Option Addr → TS)
def goneE (i : Nat) (D : Ends) : Ends := { nx := fun σ' H' => D.nx (σ'.set i none) H', rt := D.rt, bk := fun σ' H' => D.bk (σ'.set i none) H', ct := fun σ' H' => D.ct (σ'.set i none) H' }
def suW (o : Option Nat) (ts : Addr → Value → Option Addr → TS) (a : Addr) (cls : Value) (d : Option Addr) (D : Ends) (σ : L2.St) (H : Hp) : Prop := match o with
  | none => ts a cls d D σ H
  | some i => ts a cls d (goneE i D) (σ.set i (some (.ref a))) H
def wMix (K : PySem.W.Frag) (Wo : WX) (D : Ends) : List Cl → WX
  | [] => Wo
  | (c, o, ts) :: r => fun cls d σ H => ∃ b, PySem.W.exmOne K cls c = some b ∧ (b = true → ∀ a, H a = none → suW o ts a cls d D σ H) ∧ (b = false → wMix K Wo D r cls d σ H)
inductive ClsOk (X : Cx) : List ExceptHandler → List Cl → Prop
  | nil : ClsOk X [] []
  | bare {x : Str} {c : Value} {ts : Addr → Value → Option Addr → TS} {b0 : Stmt} {su : List Stmt} {p1 p2 : Pos} {hs : List ExceptHandler} {l : List Cl} (hc : Names X x c)
      (hsu : ∀ (a : Addr) (oe : Obj) (cls : Value) (d : Option Addr) (pn : List (Addr × Obj)), Zc cls d oe → (∃ vs, oe.data = .fields vs) → PSs (X.suite a ((a, oe) :: pn)) (b0 :: su) (ts a cls d)) (r : ClsOk X hs l) :
      ClsOk X (.ExceptHandler (some (.Name x p1)) none (b0 :: su) p2 :: hs) ((c, none, ts) :: l)
  | named {x n : Str} {c : Value} {i : Nat} {ts : Addr → Value → Option Addr → TS} {b0 : Stmt} {su : List Stmt} {p1 p2 : Pos} {hs : List ExceptHandler} {l : List Cl} (hc : Names X x c) (hN : X.N.Nodup) (hi : X.N[i]? = some n) (hln : X.env.kindOf n = some .local)
      (hsu : ∀ (a : Addr) (oe : Obj) (cls : Value) (d : Option Addr) (pn : List (Addr × Obj)), Zc cls d oe → (∃ vs, oe.data = .fields vs) → PSs (X.suite a ((a, oe) :: pn)) (b0 :: su) (ts a cls d)) (r : ClsOk X hs l) :
      ClsOk X (.ExceptHandler (some (.Name x p1)) (some n) (b0 :: su) p2 :: hs) ((c, some i, ts) :: l)
theorem ps_tryMix {X : Cx} {bo : List Stmt} {h0 : ExceptHandler} {hs : List ExceptHandler} {l : List Cl} {pos : Pos} {tb : WX → TS} {Wo : WX} (hst : X.stack = X.env :: X.outer) (hf : X.env.frame = some X.env.locals) (tk : Takes X Wo)
    (hb : ∀ (W : WX) (pn : List (Addr × Obj)) (xe : Value → Shared → Prop), Takes (X.tr pn xe) W → PassesOwn (model X.prog X.w) X.A X.env xe → PSs (X.tr pn xe) bo (tb W))
    (hh : ClsOk X (h0 :: hs) l) : PS X (.Try bo (h0 :: hs) [] [] pos) (fun D σ H => tb (wMix X.K Wo D l) D σ H) := by
  refine ⟨fun pins s σ H D I h => ?_⟩
  have ok := I.ok
  have hfr : X.A.frames = some (X.env :: X.outer) := by rw [ok.frames, hst]
  refine wpAny_Try_except ?_
  refine wpAny_mono ((hb (wMix X.K Wo D l) (X.pn ++ pins) (fun e z1 => wpAny (model X.prog X.w) X.A (noteFrame e X.env) (fun _ z2 => wpAny (model X.prog X.w) X.A (setFlight e none) (fun _ z3 =>
    wpAny (model X.prog X.w) X.A (handleBy e X.env (h0 :: hs)) (SP X pins D) X.xe z3) X.xe z2) X.xe z1) (fun u s' xx => ?_) PassesOwn.looking).run [] s σ H D (I.toTry _) h) (fun f s1 hsp => ?_) (fun e s1 he => he)
  · obtain ⟨a, B, sI, pins', σ', H', cls, d, rfl, Jt, nb, up, sky, na, os, ag, w⟩ := xx
    have J : Inv X pins σ' H' sI := Jt.ofTry ok
    have skz : Sky B (X.env :: X.outer) a (Zc cls d) X.env.locals s'.heap := by rw [← hst]; exact sky
    show wpAny (model X.prog X.w) X.A (noteFrame (.ref a) X.env) _ _ _
    refine Sky.land Zc.steady hfr hf skz fun h3 fl3 up3 => ?_
    have J3 : Inv X pins σ' H' { s' with heap := h3 } := J.landed nb fl3.1 (up.trans up3) os ag
    obtain ⟨oe3, vs3, he3, hz3, hd3⟩ := fl3.there
    have offF : ∀ {h : Heap} {o : Obj} {vs : Array Value}, h.FunFrames B (X.env :: X.outer) → h.get? a = some o → o.data = .fields vs → a ∉ frs (X.env :: X.outer) := fun {h o vs} ff e dd hm => by
      obtain ⟨_, o', e', hnf⟩ := ff.mem hm
      rw [e] at e'; cases e'
      exact hnf _ dd
    have nfr := offF fl3.2.2.1 he3 hd3
    have nL : a ≠ X.env.locals := fun z => nfr (List.mem_filterMap.mpr ⟨X.env, List.mem_cons_self, by rw [hf, z]⟩)
    have nF : a ∉ X.fs := fun hm => by
      obtain ⟨e, he, q⟩ := List.mem_filterMap.mp hm
      exact nfr (List.mem_filterMap.mpr ⟨e, List.mem_cons_of_mem _ he, q⟩)
    have S3 := J3.suite he3 hd3 na nL nF
    have LT : PySem.W.Looks (model X.prog X.w) h3 (typeOf (.ref a)) cls := fun A Q E s k q => wpAny_typeOf_ref (k _ _ he3) (by rw [hz3.1]; exact q)
    have test : ∀ {x : Str} {c : Value} {p1 : Pos}, Names X x c → ∀ {Q : Value → Shared → Prop} {E : Value → Shared → Prop}, Q c { s' with heap := h3 } → wpAny (model X.prog X.w) (X.A.mark (some (.ref a))) (eval (.Name x p1) X.env) Q E { s' with heap := h3 } := by
      intro x c p1 hc Q E q
      obtain ⟨hg, hdbg, hm | ⟨hm, hv, hnn⟩⟩ := hc
      · exact ld_glob (X := X.suite a ((a, oe3) :: (X.pn ++ pins))) S3 hg hm q hdbg
      · exact ld_blt (X := X.suite a ((a, oe3) :: (X.pn ++ pins))) S3 hg hm hv q hnn hdbg
    have go : ∀ {hs' : List ExceptHandler} {l' : List Cl}, ClsOk X hs' l' → wMix X.K Wo D l' cls d σ' H' →
        wpAny (model X.prog X.w) X.A (handleBy (.ref a) X.env hs') (SP X pins D) X.xe { s' with heap := h3 } := by
      intro hs' l' hk
      induction hk with
      | nil =>
        intro w
        refine wpAny_handleBy_nil ?_
        obtain ⟨k1, k2, k3, oe, vs, T, oT, ts', he, hz, hd, h1, hr⟩ := id fl3
        unfold PySem.passOn
        refine wpAny_bind (wpAny_field he hd h1 ?_)
        rw [if_neg (show ¬ ((Value.ref T == Value.none) = true) from by simp)]
        have fin : wpAny (model X.prog X.w) X.A (setFlight (.ref a) X.env.frame) (fun _ s4 => wpAny (model X.prog X.w) X.A (throw (.ref a) : Sem Flow) (SP X pins D) X.xe s4) X.xe { s' with heap := h3 } := by
          rw [hf]
          refine HandSPX.setFlight_upZ fl3 fun h4 hh4 up4 => wpAny_throw (tk _ _ ?_)
          exact ⟨a, B, sI, pins, σ', H', cls, d, rfl, J, nb, (up.trans up3).trans up4, .inr (.inr (by rw [hst]; exact hh4)), na, os, ag, w⟩
        first
          | exact wpAny_bind (wpAny_pure (wpAny_bind fin))
          | exact wpAny_bind fin
      | @bare x c ts b0 su p1 p2 hs2 l2 hc hsu r ih =>
        intro w
        obtain ⟨b, hb1, hyes, hno⟩ := w
        refine wpAny_handleBy_cons (codeAny_handlers_test ?_) (by intro q; cases q)
        have LM := PySem.W.exm_one (M := model X.prog X.w) (J3.kIn) LT hb1
        refine test hc (LM.here ?_)
        cases b with
        | true =>
          refine codeAny_handlers_suite ?_
          refine HandSPX.lands_againZ fl3 fun h4 fl4 up4 => ?_
          have J4 : Inv X pins σ' H' { s' with heap := h4 } := J.landed nb fl4.1 ((up.trans up3).trans up4) os ag
          obtain ⟨oe4, vs4, he4, hz4, hd4⟩ := fl4.there
          have S4 := J4.suite he4 hd4 na nL nF
          have W4 : ts a cls d D σ' H' := hyes rfl a na
          refine wpAny_mono ((hsu a oe4 cls d (X.pn ++ pins) hz4 ⟨_, hd4⟩).run [] _ _ H' _ S4 W4) (fun f s6 hsp => ?_) (fun _ _ z => False.elim z)
          cases f with
          | ret u =>
            obtain ⟨v6, σ6, H6, S6, r6, q6⟩ := hsp
            exact ⟨_, _, _, S6.unsuite ok, r6, q6⟩
          | next => exact let ⟨_, _, S6, q6⟩ := hsp; ⟨_, _, S6.unsuite ok, q6⟩
          | brk => exact let ⟨_, _, S6, q6⟩ := hsp; ⟨_, _, S6.unsuite ok, q6⟩
          | cont => exact let ⟨_, _, S6, q6⟩ := hsp; ⟨_, _, S6.unsuite ok, q6⟩
        | false =>
          show wpAny _ X.A (handleBy (.ref a) X.env hs2) _ _ _
          exact ih (hno rfl)
      | @named x n c i ts b0 su p1 p2 hs2 l2 hc hN hi hln hsu r ih =>
        intro w
        obtain ⟨b, hb1, hyes, hno⟩ := w
        refine wpAny_handleBy_cons (codeAny_handlers_test ?_) (by intro q; cases q)
        have LM := PySem.W.exm_one (M := model X.prog X.w) (J3.kIn) LT hb1
        refine test hc (LM.here ?_)
        cases b with
        | true =>
          refine codeAny_handlers_suite_as ?_
          refine HandSPX.lands_againZ fl3 fun h4 fl4 up4 => ?_
          have J4 : Inv X pins σ' H' { s' with heap := h4 } := J.landed nb fl4.1 ((up.trans up3).trans up4) os ag
          obtain ⟨oe4, vs4, he4, hz4, hd4⟩ := fl4.there
          have S4 := J4.suite he4 hd4 na nL nF
          refine store_ok (X := X.suite a ((a, oe4) :: (X.pn ++ pins))) (v := .ref a) S4 hN hi (.inl hln) rfl (fun s5 S5 => ?_) (.inr hln)
          have W4 : ts a cls d (goneE i D) (σ'.set i (some (.ref a))) H' := hyes rfl a na
          refine wpAny_mono ((hsu a oe4 cls d (X.pn ++ pins) hz4 ⟨_, hd4⟩).run [] s5 _ H' _ S5 W4) (fun f s6 hsp => ?_) (fun _ _ z => False.elim z)
          have gone : ∀ {σ6 : L2.St} {H6 : Hp} {Q : Shared → Prop}, Inv (X.suite a ((a, oe4) :: (X.pn ++ pins))) [] σ6 H6 s6 → (∀ s7, Inv X pins (σ6.set i none) H6 s7 → Q s7) →
              wpAny (model X.prog X.w) X.A (do bindName X.env n .none; unbindBehindTheSuite X.env n p2) (fun _ s7 => Q s7) X.xe s6 := fun {σ6 H6 Q} S6 hq => gone_ok (S6.unsuite ok) hN hi hln hq
          cases f with
          | ret u =>
            obtain ⟨v6, σ6, H6, S6, r6, q6⟩ := hsp
            exact gone S6 fun s7 J7 => ⟨_, _, _, J7, r6, q6⟩
          | next =>
            obtain ⟨σ6, H6, S6, q6⟩ := hsp
            exact gone S6 fun s7 J7 => ⟨_, _, J7, q6⟩
          | brk =>
            obtain ⟨σ6, H6, S6, q6⟩ := hsp
            exact gone S6 fun s7 J7 => ⟨_, _, J7, q6⟩
          | cont =>
            obtain ⟨σ6, H6, S6, q6⟩ := hsp
            exact gone S6 fun s7 J7 => ⟨_, _, J7, q6⟩
        | false =>
          show wpAny _ X.A (handleBy (.ref a) X.env hs2) _ _ _
          exact ih (hno rfl)
    exact go hh w
  · cases f with
    | ret u =>
      obtain ⟨v, σ', H', Jt, r, q⟩ := hsp
      exact ⟨v, σ', H', Jt.ofTry ok, r, q⟩
    | next => exact wpAny_execs_nil (let ⟨σ', H', Jt, q⟩ := hsp; ⟨σ', H', Jt.ofTry ok, q⟩)
    | brk => exact let ⟨σ', H', Jt, q⟩ := hsp; ⟨σ', H', Jt.ofTry ok, q⟩
    | cont => exact let ⟨σ', H', Jt, q⟩ := hsp; ⟨σ', H', Jt.ofTry ok, q⟩
/-- try: .. except: .. except: .. -/
def tTryM (K : PySem.W.Frag) (l : List Cl) (tb : WX → TS) : TS := fun D σ H => tb (wMix K (fun _ _ _ _ => False) D l) D σ H
section
variable {K : PySem.W.Frag} {cn : Cn}
/-- the clauses, one after the other, at an exception of the class nm with the found data x -/
def Caught (K : PySem.W.Frag) (cn : Cn) (nm : Nat) (x : D) (δ : List Sl) (E : En) : List Cl → Prop
  | [] => False
  | (c, o, ts) :: r => ∃ b, PySem.W.exmOne K (.ref (cn.ad nm)) c = some b ∧
      (b = true → ∀ (a d : Addr) (v : V), match o with
        | none => WS (cS K d (cn.fl nm) v x) (ts a (.ref (cn.ad nm)) (some d)) δ E
        | some i => WS (cS K d (cn.fl nm) v x) (ts a (.ref (cn.ad nm)) (some d)) (δ.set i (.d (.ptr a))) ⟨fun δ3 => E.nx (δ3.set i .no), E.rt, fun δ3 => E.bk (δ3.set i .no), fun δ3 => E.ct (δ3.set i .no)⟩) ∧
      (b = false → Caught K cn nm x δ E r)
theorem ws_tryM {l : List Cl} {δ : List Sl} {tb : WX → TS} {Ψ : Nat → D → List Sl → Prop} {E : En} (hb : ∀ W : WX, WS (cX K cn Ψ W) (tb W) δ E)
    (hs : ∀ nm x δ', Ψ nm x δ' → Caught K cn nm x δ' E l) : WS (c0 K) (tTryM K l tb) δ E := by
  intro B G H σ Dn F x hE
  refine hb _ B G H σ Dn F (fun nm y δ' σ' d v G' H' q eG F' hd hr => ?_) ⟨hE.nx, hE.rt, hE.bk, hE.ct⟩
  have go : ∀ l : List Cl, Caught K cn nm y δ' E l → wMix K (fun _ _ _ _ => False) Dn l (.ref (cn.ad nm)) (some d) σ' H' := by
    intro l
    induction l with
    | nil => exact fun h => h.elim
    | cons c r ih =>
      obtain ⟨c, o, ts⟩ := c
      rintro ⟨b, h1, h2, h3⟩
      refine ⟨b, h1, fun z a ha => ?_, fun z => ih (h3 z)⟩
      have h4 := h2 z a d v
      cases o with
      | none =>
        exact h4 B G' H' _ _ F' ⟨hd, hr⟩ ⟨fun δ3 σ3 G3 H3 w e F3 => hE.nx _ _ G3 H3 w (eG.trans e) F3, fun r δ3 u σ3 G3 H3 w e F3 rv => hE.rt r δ3 u σ3 G3 H3 w (eG.trans e) F3 rv,
          fun δ3 σ3 G3 H3 w e F3 => hE.bk _ _ G3 H3 w (eG.trans e) F3, fun δ3 σ3 G3 H3 w e F3 => hE.ct _ _ G3 H3 w (eG.trans e) F3⟩
      | some i =>
        have Fs : Frame K B G' H' (σ'.set i (some (.ref a))) (δ'.set i (.d (.ptr a))) := frame_set (r := .d (.ptr a)) F' (by show Rep K G' (.ptr a) (.ref a); unfold Rep; rfl) rfl
        refine h4 B G' H' _ _ Fs ⟨hd, hr⟩ ⟨fun δ3 σ3 G3 H3 w e F3 => ?_, fun r δ3 u σ3 G3 H3 w e F3 rv => hE.rt r δ3 u σ3 G3 H3 w (eG.trans e) F3 rv, fun δ3 σ3 G3 H3 w e F3 => ?_, fun δ3 σ3 G3 H3 w e F3 => ?_⟩
        · exact hE.nx _ _ G3 H3 w (eG.trans e) (frame_wipe F3 [i])
        · exact hE.bk _ _ G3 H3 w (eG.trans e) (frame_wipe F3 [i])
        · exact hE.ct _ _ G3 H3 w (eG.trans e) (frame_wipe F3 [i])
  exact go l (hs nm y δ' q)
theorem w_tryM {δ : List Sl} {N B C : List Sl → Prop} {Rt : R → List Sl → Prop} {l : List Cl} {tb : WX → TS} (Ψ : Nat → D → List Sl → Prop) (hb : ∀ Wx : WX, W (cX K cn Ψ Wx) (tb Wx) δ N Rt B C)
    (hs : ∀ nm x δ', Ψ nm x δ' → Caught K cn nm x δ' ⟨N, Rt, B, C⟩ l) : W (c0 K) (tTryM K l tb) δ N Rt B C := ws_tryM (Ψ := Ψ) hb hs
/-- the first clause takes it, it has a name -/
theorem caught_as {nm : Nat} {x : D} {δ : List Sl} {N B C : List Sl → Prop} {Rt : R → List Sl → Prop} {c : Value} {i : Nat} {ts : Addr → Value → Option Addr → TS} {r : List Cl} (h1 : PySem.W.exmOne K (.ref (cn.ad nm)) c = some true)
    (h2 : ∀ (a d : Addr) (v : V), W (cS K d (cn.fl nm) v x) (ts a (.ref (cn.ad nm)) (some d)) (δ.set i (.d (.ptr a))) (fun δ3 => N (δ3.set i .no)) Rt (fun δ3 => B (δ3.set i .no)) (fun δ3 => C (δ3.set i .no))) :
    Caught K cn nm x δ ⟨N, Rt, B, C⟩ ((c, some i, ts) :: r) := ⟨true, h1, fun _ a d v => h2 a d v, fun z => nomatch z⟩
theorem caught_no {nm : Nat} {x : D} {δ : List Sl} {N B C : List Sl → Prop} {Rt : R → List Sl → Prop} {c : Value} {ts : Addr → Value → Option Addr → TS} {r : List Cl} (h1 : PySem.W.exmOne K (.ref (cn.ad nm)) c = some true)
    (h2 : ∀ (a d : Addr) (v : V), W (cS K d (cn.fl nm) v x) (ts a (.ref (cn.ad nm)) (some d)) δ N Rt B C) :
    Caught K cn nm x δ ⟨N, Rt, B, C⟩ ((c, none, ts) :: r) := ⟨true, h1, fun _ a d v => h2 a d v, fun z => nomatch z⟩
theorem caught_next {nm : Nat} {x : D} {δ : List Sl} {N B C : List Sl → Prop} {Rt : R → List Sl → Prop} {c : Value} {o : Option Nat} {ts : Addr → Value → Option Addr → TS} {r : List Cl} (h1 : PySem.W.exmOne K (.ref (cn.ad nm)) c = some false)
    (h2 : Caught K cn nm x δ ⟨N, Rt, B, C⟩ r) : Caught K cn nm x δ ⟨N, Rt, B, C⟩ ((c, o, ts) :: r) := ⟨false, h1, fun z => (nomatch z), fun _ => h2⟩
end
end DL
namespace DL
open PySem PySem.Spec PyProof.Rows L2
open Evl (Ex)
/-- a class as a value: one of the text's, or a built-in one -/
inductive ClsV : V → Value → Prop
  | ref (C : Addr) : ClsV (.ref C) (.ref C)
  | ty (n : String) : ClsV (.ty n) (.type n)
theorem ClsV.rel {v : V} {u u' : Value} (h : ClsV v u) (r : RelV v u') : u' = u := by
  cases h with
  | ref C => exact r
  | ty n => exact r
/-- isinstance(e, C), e what the suite holds -/
def rIsG (K : PySem.W.Frag) (a : Addr) (cls : Value) (d : Option Addr) : List V → Hp → VK → Prop := fun xs H Q => ∃ f C dd v2 u2 b fs, cls = .ref C ∧ d = some dd ∧ ExcAll K C f ∧ xs = [.ref a, v2] ∧ ClsV v2 u2 ∧ H dd = some (.xd fs) ∧ PySem.W.kitOne K (.ref C) u2 = some b ∧ Q (.bl b) H
theorem call_isG {X : Cx} {a : Addr} {cls : Value} {d : Option Addr} {oe : Obj} {pn : List (Addr × Obj)} (hz : Zc cls d oe) (hf : ∃ vs, oe.data = .fields vs) : CallR (X.suite a ((a, oe) :: pn)) (.builtin "isinstance") (rIsG X.K a cls d) := by
  intro pins s σ H xs us Q I r h
  obtain ⟨f, C, dd, v2, w2, b, fs, ec, ed, T, e, hv, hd, hk, q⟩ := h
  subst ec ed e
  obtain ⟨u1, u2, eu, r1, r2⟩ := vals2 r
  subst eu
  have e1 : u1 = .ref a := r1
  have e2 := hv.rel r2
  subst e1 e2
  obtain ⟨hget, _⟩ := I.pin (a, oe) (List.mem_append_left _ List.mem_cons_self)
  obtain ⟨vs, hv'⟩ := hf
  obtain ⟨mA, hns, _⟩ := (show ObjOk X.prog X.w H s.heap dd (.xd fs) from I.hok dd _ hd)
  obtain ⟨od, ho, _⟩ := lookIn_ns hns
  have J : PySem.W.InstAt s.heap a oe C (some od) := ⟨hget, hz.1, by unfold PySem.W.notCls; rw [hv'] <;> rfl, by rw [hz.2]; exact ho⟩
  exact PySem.W.kia_one (PySem.W.kitx_exc T.hcl T.xf.ga T.xf.gg T.xf.exC T.hat T.hn T.htk T.hm) I.kIn J hk (fun z => nomatch z) fun tk => ⟨.bl b, H, I.kept (t' := tk) fun _ _ z => z, rfl, q⟩
section
variable {K : PySem.W.Frag} {p : Bool} {δ : List Sl} {a d C : Addr} {f : Str} {v : V} {x : D} {tr : TA} {Φ : R → List Sl → Prop}
theorem we_isG (T : ExcAll K C f) (h : WA (cS K d f v x) p tr δ fun rs δ1 => ∃ (y : D) (b : Bool), rs = [.d (.ptr a), .d y] ∧ ((∃ C', y = .ptr C' ∧ PySem.W.kitOne K (.ref C) (.ref C') = some b) ∨ (∃ n, y = .ty n ∧ PySem.W.kitOne K (.ref C) (.type n) = some b)) ∧ Φ (.d (.bl b)) δ1) :
    WE (cS K d f v x) p (tCB (rIsG K a (.ref C) (some d)) tr) δ Φ := by
  intro B G H σ Q F xr k
  refine h B G H σ _ F xr fun rs δ1 vs G1 H1 w e1 F1 rv p1 => ?_
  obtain ⟨y, b, er, hk, w⟩ := w
  subst er
  obtain ⟨u, ur, eu, h1, u2, ur2, eu2, h2, h3⟩ := rv
  have e3 : ur2 = [] := h3
  subst e3 eu2 eu
  have q1 : u = .ref a := by
    have z : Rep K G1 (.ptr a) u := h1
    unfold Rep at z
    exact z
  subst q1
  have fin := k _ δ1 _ G1 H1 w e1 F1 (rep_bl (K := K) (G := G1)) p1
  rcases hk with ⟨C', e, hk⟩ | ⟨n, e, hk⟩
  · subst e
    have q2 : u2 = .ref C' := by
      have z : Rep K G1 (.ptr C') u2 := h2
      unfold Rep at z
      exact z
    subst q2
    exact ⟨f, C, d, _, _, b, _, rfl, rfl, T, rfl, .ref C', F1.exG d _ (e1 d _ xr.1), hk, fin⟩
  · subst e
    have q2 : u2 = .ty n := by
      have z : Rep K G1 (.ty n) u2 := h2
      unfold Rep at z
      exact z
    subst q2
    exact ⟨f, C, d, _, _, b, _, rfl, rfl, T, rfl, .ty n, F1.exG d _ (e1 d _ xr.1), hk, fin⟩
theorem we_isGp {C' : Addr} {b : Bool} (T : ExcAll K C f) (hk : PySem.W.kitOne K (.ref C) (.ref C') = some b) (h : WA (cS K d f v x) p tr δ fun rs δ1 => rs = [.d (.ptr a), .d (.ptr C')] ∧ Φ (.d (.bl b)) δ1) : WE (cS K d f v x) p (tCB (rIsG K a (.ref C) (some d)) tr) δ Φ :=
  we_isG T fun B G H σ Q F xr k => h B G H σ Q F xr fun rs δ1 vs G1 H1 w e1 F1 rv p1 => k rs δ1 vs G1 H1 ⟨_, b, w.1, .inl ⟨C', rfl, hk⟩, w.2⟩ e1 F1 rv p1
theorem we_isGt {n : String} {b : Bool} (T : ExcAll K C f) (hk : PySem.W.kitOne K (.ref C) (.type n) = some b) (h : WA (cS K d f v x) p tr δ fun rs δ1 => rs = [.d (.ptr a), .d (.ty n)] ∧ Φ (.d (.bl b)) δ1) : WE (cS K d f v x) p (tCB (rIsG K a (.ref C) (some d)) tr) δ Φ :=
  we_isG T fun B G H σ Q F xr k => h B G H σ Q F xr fun rs δ1 vs G1 H1 w e1 F1 rv p1 => k rs δ1 vs G1 H1 ⟨_, b, w.1, .inr ⟨n, rfl, hk⟩, w.2⟩ e1 F1 rv p1
end
end DL
namespace DL
open PySem PySem.Spec PyProof.Rows L2
section
variable {c : Cd} {δ : List Sl} {N B C : List Sl → Prop} {Rt : R → List Sl → Prop} {tt : TT} {t : TS}
/-- a loop, its end told by P -/
theorem w_whileP (P : List Sl → Prop) (I : Nat → List Sl → Prop) (n : Nat) (h0 : I n δ) (hs : ∀ m δ', I m δ' → WT c false tt δ' fun b δ2 => (b = true → W c t δ2 (fun δ3 => ∃ m', m' < m ∧ I m' δ3) Rt P (fun δ3 => ∃ m', m' < m ∧ I m' δ3)) ∧ (b = false → P δ2)) (hN : ∀ δ2, P δ2 → N δ2) : W c (tWhile tt t) δ N Rt B C :=
  w_while I n h0 fun m δ' hI => wt_mono (hs m δ' hI) fun b δ2 q => ⟨fun e => w_mono (q.1 e) (fun _ x => x) (fun _ _ x => x) hN (fun _ x => x), fun e => hN _ (q.2 e)⟩
/-- what stands behind t is shown once -/
theorem w_join (P : List Sl → Prop) (h : W c t δ P Rt B C) (hN : ∀ δ2, P δ2 → N δ2) : W c t δ N Rt B C := w_mono h hN (fun _ _ x => x) (fun _ x => x) (fun _ x => x)
end
end DL
namespace DL
open PySem PySem.Spec PyProof.Rows L2
/-- a, b, .. = a tuple or a list of that length -/
def gSeq (K : PySem.W.Frag) (n : Nat) (t : TGs) : TG := fun v σ H Q => gTup K n t v σ H Q ∨ L2.gLst K n t v σ H Q
theorem pg_seq {X : Cx} {pos : Pos} {es : List Expr} {k : Nat} {t : TGs} {n : Nat} (hc : X.calm = true) (h : PGs X es t)
    (hn : (assignEach es X.env).length = n := by rfl) (hst : (assignEach es X.env).findIdx? (·.1) = none := by rfl) : PG X (.Tuple es k pos) (gSeq X.K n t) :=
  ⟨fun pins s σ H v u Q I r hw => hw.elim ((pg_tup hc h hn hst).run pins s σ H v u Q I r) ((L2.pg_lst hc h hn hst).run pins s σ H v u Q I r)⟩
section
variable {c : Cd} {δ : List Sl} {Φ : List Sl → Prop} {x y z : D} {a : Addr} {g1 g2 g3 : TG}
theorem wg_seqT {gs : TGs} {n : Nat} {xs : List D} (hn : xs.length = n) (h : WGs c gs xs δ Φ) : WG c (gSeq c.K n gs) (.d (.tup xs)) δ Φ := fun B G H σ v Q F z rv k => .inl (wg_tup hn h B G H σ v Q F z rv k)
theorem wg_seqL {gs : TGs} {n : Nat} {xs : List D} (hn : xs.length = n) (h : WGs c gs xs δ Φ) : WG c (gSeq c.K n gs) (.d (.lst xs)) δ Φ := fun B G H σ v Q F z rv k => by
  have rv' : Rep c.K G (.lst xs) v := rv
  unfold Rep at rv'
  obtain ⟨a, ys, e, h1, h2⟩ := rv'
  exact .inr ⟨a, ys, e, .inl (Evl.ex_rd F.exG h1), (reps_length h2).trans hn, h B G H σ ys Q F z h2 k⟩
theorem wgs2 (h : WG c g1 (.d x) δ fun δ1 => WG c g2 (.d y) δ1 Φ) : WGs c (gCons g1 (gCons g2 gNil)) [x, y] δ Φ := wgs_cons (wg_mono h fun δ1 q => wgs_cons (wg_mono q fun δ2 q2 => wgs_nil q2))
theorem wgs3 (h : WG c g1 (.d x) δ fun δ1 => WG c g2 (.d y) δ1 fun δ2 => WG c g3 (.d z) δ2 Φ) : WGs c (gCons g1 (gCons g2 (gCons g3 gNil))) [x, y, z] δ Φ := wgs_cons (wg_mono h fun δ1 q => wgs_cons (wg_mono q fun δ2 q2 => wgs_cons (wg_mono q2 fun δ3 q3 => wgs_nil q3)))
theorem wg_s2t (h : WG c g1 (.d x) δ fun δ1 => WG c g2 (.d y) δ1 Φ) : WG c (gSeq c.K 2 (gCons g1 (gCons g2 gNil))) (.d (.tup [x, y])) δ Φ := wg_seqT rfl (wgs2 h)
theorem wg_s2l (h : WG c g1 (.d x) δ fun δ1 => WG c g2 (.d y) δ1 Φ) : WG c (gSeq c.K 2 (gCons g1 (gCons g2 gNil))) (.d (.lst [x, y])) δ Φ := wg_seqL rfl (wgs2 h)
theorem wg_s2o (h : WG c g1 (.d x) δ fun δ1 => WG c g2 (.d y) δ1 Φ) : WG c (gSeq c.K 2 (gCons g1 (gCons g2 gNil))) (.own a (.lst [x, y])) δ Φ := wg_frz (wg_s2l h)
theorem wg_s3t (h : WG c g1 (.d x) δ fun δ1 => WG c g2 (.d y) δ1 fun δ2 => WG c g3 (.d z) δ2 Φ) : WG c (gSeq c.K 3 (gCons g1 (gCons g2 (gCons g3 gNil)))) (.d (.tup [x, y, z])) δ Φ := wg_seqT rfl (wgs3 h)
theorem wg_s3l (h : WG c g1 (.d x) δ fun δ1 => WG c g2 (.d y) δ1 fun δ2 => WG c g3 (.d z) δ2 Φ) : WG c (gSeq c.K 3 (gCons g1 (gCons g2 (gCons g3 gNil)))) (.d (.lst [x, y, z])) δ Φ := wg_seqL rfl (wgs3 h)
theorem wg_s3o (h : WG c g1 (.d x) δ fun δ1 => WG c g2 (.d y) δ1 fun δ2 => WG c g3 (.d z) δ2 Φ) : WG c (gSeq c.K 3 (gCons g1 (gCons g2 (gCons g3 gNil)))) (.own a (.lst [x, y, z])) δ Φ := wg_frz (wg_s3l h)
end
end DL

/-! DL17: equal data are equal, empty dicts among them. -/
namespace PySem
open Builtin
section
variable {A : Around} {s : Shared}
theorem dict_eq0 (a b : Addr) (ha : (a == sysModules) = false) (hb : (b == sysModules) = false) : Meets (Builtin.«dict.__eq__» ⟨[.ref a, .ref b], []⟩) (fun _ R s => (∃ o ep, s.heap.get? a = some o ∧ o.cls = .type "dict" ∧ o.data = .dict #[] ep) ∧ (∃ o ep, s.heap.get? b = some o ∧ o.cls = .type "dict" ∧ o.data = .dict #[] ep) ∧ R (.ok (.ret (.bool true))) s) :=
  .of_wp fun prog w A R s ⟨⟨o, ep, ho, hc, hd⟩, ⟨o2, ep2, ho2, hc2, hd2⟩, h⟩ => by
    show wpAny _ _ (Builtin.Dict.dictSlotArgs "__eq__" ⟨[.ref a, .ref b], []⟩ >>= _) _ _ s
    refine wpAny_bind ?_
    unfold Builtin.Dict.dictSlotArgs Builtin.Dict.notOrdered
    show wpAny _ _ (pure ((Value.ref a, Value.ref b) : Value × Value)) _ _ s
    refine wpAny_pure ?_
    show wpAny _ _ (isInstance (.ref b) (.type "dict") >>= _) _ _ s
    refine wpAny_bind (wpAny_isInstance (T := "dict") ⟨o2, ho2, hc2⟩ F.sub_dict_dict ?_)
    show wpAny _ _ (Builtin.Dict.addrOf (.ref a) >>= _) _ _ s
    refine wpAny_bind (wpAny_pure ?_)
    show wpAny _ _ (Builtin.Dict.addrOf (.ref b) >>= _) _ _ s
    refine wpAny_bind (wpAny_pure ?_)
    refine wpAny_bind ?_
    unfold Builtin.Dict.samePairs Builtin.Dict.showsAll
    rw [if_neg (by rw [ha]; exact Bool.false_ne_true), if_neg (by rw [hb]; exact Bool.false_ne_true)]
    refine wpAny_bind (wpAny_pure ?_)
    refine wpAny_bind (wpAny_pure ?_)
    refine wpAny_bind (wpAny_dictEntries ho hd ?_)
    refine wpAny_bind (wpAny_dictEntries ho2 hd2 ?_)
    rw [if_neg (by decide)]
    refine wpAny_bind (wpAny_dictEpoch ho hd ?_)
    refine wpAny_bind ?_
    rw [Std.Legacy.Range.forIn_eq_forIn_range']
    show wpAny _ _ (pure (none, ())) _ _ s
    refine wpAny_pure ?_
    show wpAny _ _ (pure true) _ _ s
    exact wpAny_pure (wpAny_pure ⟨_, rfl, h⟩)
theorem RcAt.dicts0 {a b : Addr} (ha : (a == sysModules) = false) (hb : (b == sysModules) = false) (hu : A.units < cLine) (h1 : ∃ o ep, s.heap.get? a = some o ∧ o.cls = .type "dict" ∧ o.data = .dict #[] ep) (h2 : ∃ o ep, s.heap.get? b = some o ∧ o.cls = .type "dict" ∧ o.data = .dict #[] ep) : SeqAt.RcAt A s (.ref a) (.ref b) true := fun prog w E Q h => by
  obtain ⟨o, ep, ho, hc, hd⟩ := id h1
  obtain ⟨o2, ep2, ho2, hc2, hd2⟩ := id h2
  exact richCompare_meets_room (op := .Eq) ⟨_, ho, hc⟩ ⟨_, ho2, hc2⟩ F.slot_dict_eq F.entry_dict_eq (F.args_dict_eq_2 _ _) (dict_eq0 a b ha hb) ⟨h1, h2, show Value.bool true ≠ Value.notImplemented ∧ Q (.bool true) s from ⟨(fun x => nomatch x), h⟩⟩ hu
open PySem.SeqAt in
mutual
/-- data with no dict but the empty one -/
def d0 : PyData → Bool
  | .none => true
  | .bool _ => true
  | .int _ => true
  | .str _ => true
  | .list xs => d0s xs
  | .tuple xs => d0s xs
  | .dict kvs => kvs.isEmpty
def d0s : List PyData → Bool
  | [] => true
  | x :: xs => d0 x && d0s xs
end
section
open SeqAt
theorem all_true (n : Nat) : (List.range n).all (fun _ => true) = true := by simp
mutual
theorem eq_same : ∀ (d : PyData) (A : Around) (s : Shared) (u v : Value) (as bs : List Addr), d0 d = true → Reads s.heap u d as → Reads s.heap v d bs → sysModules ∉ as → sysModules ∉ bs → A.units + d.depth < cLine → EqAt A s u v true
  | .none, A, s, u, v, as, bs, h0, r1, r2, n1, n2, hu => by cases r1; cases r2; exact EqAt.same _
  | .bool b, A, s, u, v, as, bs, h0, r1, r2, n1, n2, hu => by cases r1; cases r2; exact EqAt.same _
  | .int i, A, s, u, v, as, bs, h0, r1, r2, n1, n2, hu => by
    cases r1 with
    | int i t => cases r2 with
      | int _ t2 =>
        have := EqAt.int_int (A := A) (s := s) i t i t2
        rw [beq_self_eq_true] at this
        exact this
  | .str z, A, s, u, v, as, bs, h0, r1, r2, n1, n2, hu => by
    cases r1 with
    | str z t => cases r2 with
      | str _ t2 =>
        have := EqAt.str_str (A := A) (s := s) z t z t2
        rw [beq_self_eq_true] at this
        exact this
  | .list xs, A, s, u, v, as, bs, h0, r1, r2, n1, n2, hu => by
    cases r1 with
    | @list l o vs n _ as1 k1 k2 k3 k4 => cases r2 with
      | @list l' o' vs' n' _ as2 j1 j2 j3 j4 =>
        by_cases e : l = l'
        · subst e; exact EqAt.same _
        · simp only [PyData.depth] at hu
          have he := eqs_same xs A.in1 s vs.toList vs'.toList as1 as2 (by simpa only [d0] using h0) k4 j4 (fun m => n1 (List.mem_cons_of_mem _ m)) (fun m => n2 (List.mem_cons_of_mem _ m)) (by show A.units + 1 + _ < _; omega)
          have m1 : vs.size = xs.length := by simpa using ReadsAll.length _ _ _ k4
          have m2 : vs'.size = xs.length := by simpa using ReadsAll.length _ _ _ j4
          have z := RcAt.lists (A := A) (s := s) (e := fun _ => true) ⟨_, k1, k2, _, k3⟩ ⟨_, j1, j2, _, j3⟩ (m1.trans m2.symm) (by omega) (fun j h1 h2 => he j h1 h2)
          rw [all_true] at z
          exact EqAt.of_refs e z
  | .tuple xs, A, s, u, v, as, bs, h0, r1, r2, n1, n2, hu => by
    cases r1 with
    | @tuple l o vs n _ as1 k1 k2 k3 k4 => cases r2 with
      | @tuple l' o' vs' n' _ as2 j1 j2 j3 j4 =>
        by_cases e : l = l'
        · subst e; exact EqAt.same _
        · simp only [PyData.depth] at hu
          have he := eqs_same xs A.in1 s vs.toList vs'.toList _ _ (by simpa only [d0] using h0) k4 j4 n1 n2 (by show A.units + 1 + _ < _; omega)
          have m1 : vs.size = xs.length := by simpa using ReadsAll.length _ _ _ k4
          have m2 : vs'.size = xs.length := by simpa using ReadsAll.length _ _ _ j4
          have z := RcAt.tuples (A := A) (s := s) (e := fun _ => true) ⟨_, k1, k2, _, k3⟩ ⟨_, j1, j2, _, j3⟩ (by omega) (fun j h1 h2 => he j h1 h2)
          rw [all_true, m1, m2, beq_self_eq_true] at z
          exact EqAt.of_refs e z
  | .dict kvs, A, s, u, v, as, bs, h0, r1, r2, n1, n2, hu => by
    cases r1 with
    | @dict l o es n _ as1 as2 k1 k2 k3 k4 k5 => cases r2 with
      | @dict l' o' es' n' _ as3 as4 j1 j2 j3 j4 j5 =>
        by_cases e : l = l'
        · subst e; exact EqAt.same _
        · have q : kvs = [] := by simpa [d0] using h0
          subst q
          have e1 : es = #[] := by
            have := ReadsAll.length _ _ _ k4
            simpa using this
          have e2 : es' = #[] := by
            have := ReadsAll.length _ _ _ j4
            simpa using this
          subst e1 e2
          refine EqAt.of_refs e (RcAt.dicts0 ?_ ?_ (by omega) ⟨_, _, k1, k2, k3⟩ ⟨_, _, j1, j2, j3⟩)
          · simp only [beq_eq_false_iff_ne]
            intro z
            exact n1 (by rw [← z]; simp)
          · simp only [beq_eq_false_iff_ne]
            intro z
            exact n2 (by rw [← z]; simp)
theorem eqs_same : ∀ (xs : List PyData) (A : Around) (s : Shared) (us vs : List Value) (as bs : List Addr), d0s xs = true → ReadsAll s.heap us xs as → ReadsAll s.heap vs xs bs → sysModules ∉ as → sysModules ∉ bs → A.units + PyData.depthAll xs < cLine → ∀ j (h1 : j < us.length) (h2 : j < vs.length), EqAt A s us[j] vs[j] true
  | [], A, s, us, vs, as, bs, h0, r1, r2, n1, n2, hu => by cases r1; cases r2; intro j h1; exact absurd h1 (by simp)
  | x :: xs, A, s, us, vs, as, bs, h0, r1, r2, n1, n2, hu => by
    cases r1 with
    | @cons u us _ _ as1 bs1 k1 k2 => cases r2 with
      | @cons v vs _ _ as2 bs2 j1 j2 =>
        have h0' : d0 x = true ∧ d0s xs = true := by simpa [d0s] using h0
        simp only [PyData.depthAll] at hu
        intro j h1 h2
        cases j with
        | zero => exact eq_same x A s u v as1 as2 h0'.1 k1 j1 (fun m => n1 (List.mem_append_left _ m)) (fun m => n2 (List.mem_append_left _ m)) (by omega)
        | succ j => simpa using eqs_same xs A s us vs bs1 bs2 h0'.2 k2 j2 (fun m => n1 (List.mem_append_right _ m)) (fun m => n2 (List.mem_append_right _ m)) (by omega) j (by simpa using h1) (by simpa using h2)
end
theorem rcne_list {xs : List PyData} {A : Around} {s : Shared} {u v : Value} {as bs : List Addr} (h0 : d0 (.list xs) = true) (r1 : Reads s.heap u (.list xs) as) (r2 : Reads s.heap v (.list xs) bs) (n1 : sysModules ∉ as) (n2 : sysModules ∉ bs) (hu : A.units + (PyData.list xs).depth < cLine) : RcNeAt A s u v false ∧ RcAt A s u v true := by
  cases r1 with
  | @list l o vs n _ as1 k1 k2 k3 k4 => cases r2 with
    | @list l' o' vs' n' _ as2 j1 j2 j3 j4 =>
      simp only [PyData.depth] at hu
      have he := eqs_same xs A.in1 s vs.toList vs'.toList as1 as2 (by simpa only [d0] using h0) k4 j4 (fun m => n1 (List.mem_cons_of_mem _ m)) (fun m => n2 (List.mem_cons_of_mem _ m)) (by show A.units + 1 + _ < _; omega)
      have m1 : vs.size = xs.length := by simpa using ReadsAll.length _ _ _ k4
      have m2 : vs'.size = xs.length := by simpa using ReadsAll.length _ _ _ j4
      have z := RcAt.lists (A := A) (s := s) (e := fun _ => true) ⟨_, k1, k2, _, k3⟩ ⟨_, j1, j2, _, j3⟩ (m1.trans m2.symm) (by omega) (fun j h1 h2 => he j h1 h2)
      have y := RcNeAt.lists (A := A) (s := s) (e := fun _ => true) ⟨_, k1, k2, _, k3⟩ ⟨_, j1, j2, _, j3⟩ (m1.trans m2.symm) (by omega) (fun j h1 h2 => he j h1 h2)
      rw [all_true] at z y
      exact ⟨y, z⟩
end
end
end PySem
namespace DL
open PySem PySem.Spec PyProof.Rows L2
open Evl (Ex)
/-- lists of the same data -/
def rSame (r : Bool) (K : PySem.W.Frag) : R2 := fun x y H Q => ∃ xs d, Rep K H (.lst xs) x ∧ Rep K H (.lst xs) y ∧ pyA (.lst xs) = some d ∧ d0 d = true ∧ d.depth ≤ 50 ∧ Q (.bl r) H
theorem op_sameE {X : Cx} (g : GOk X.base X.A) (hu : X.A.units + 64 < cLine) : OpR X (compareOp .Eq) (rSame true X.K) := by
  intro pins s σ H x y v u Q I rx ry h
  obtain ⟨xs, d, h1, h2, hp, h0, hd, q⟩ := h
  obtain ⟨as, r1, n1⟩ := rep_reads I g.2 _ _ _ _ hp h1 rx
  obtain ⟨bs, r2, n2⟩ := rep_reads I g.2 _ _ _ _ hp h2 ry
  have e : ∃ ds, d = .list ds := by
    unfold pyA at hp
    cases e2 : pyAs xs with
    | none => rw [e2] at hp; cases hp
    | some ds => rw [e2] at hp; cases hp; exact ⟨ds, rfl⟩
  obtain ⟨ds, rfl⟩ := e
  exact (rcne_list h0 r1 r2 n1 n2 (by omega)).2 _ _ _ _ ⟨.bl _, H, I, rfl, q⟩
theorem op_sameN {X : Cx} (g : GOk X.base X.A) (hu : X.A.units + 64 < cLine) : OpR X (compareOp .NotEq) (rSame false X.K) := by
  intro pins s σ H x y v u Q I rx ry h
  obtain ⟨xs, d, h1, h2, hp, h0, hd, q⟩ := h
  obtain ⟨as, r1, n1⟩ := rep_reads I g.2 _ _ _ _ hp h1 rx
  obtain ⟨bs, r2, n2⟩ := rep_reads I g.2 _ _ _ _ hp h2 ry
  have e : ∃ ds, d = .list ds := by
    unfold pyA at hp
    cases e2 : pyAs xs with
    | none => rw [e2] at hp; cases hp
    | some ds => rw [e2] at hp; cases hp; exact ⟨ds, rfl⟩
  obtain ⟨ds, rfl⟩ := e
  exact (rcne_list h0 r1 r2 n1 n2 (by omega)).1 _ _ _ _ ⟨.bl _, H, I, rfl, q⟩
def rEqB (K : PySem.W.Frag) : R2 := fun x y H Q => rEqA K x y H Q ∨ rSame true K x y H Q
def rNeB (K : PySem.W.Frag) : R2 := fun x y H Q => rNeA K x y H Q ∨ rSame false K x y H Q
theorem op_eqB {X : Cx} (g : GOk X.base X.A) (hu : X.A.units + 64 < cLine) : OpR X (compareOp .Eq) (rEqB X.K) := (op_eqA hu).or (op_sameE g hu)
theorem op_neB {X : Cx} (g : GOk X.base X.A) (hu : X.A.units + 64 < cLine) : OpR X (compareOp .NotEq) (rNeB X.K) := (op_neA hu).or (op_sameN g hu)
/-- the same data, no dict in it but empty ones -/
def sameD (x y : D) : Prop := ∃ xs d, x = .lst xs ∧ y = .lst xs ∧ pyA (.lst xs) = some d ∧ d0 d = true ∧ d.depth ≤ 50
def dEqB (f : Bool → Bool) : Dop := fun x y k => dEqF f x y k ∨ (sameD x y ∧ k (.d (.bl (f true))))
section
variable {c : Cd}
theorem opd_same (r : Bool) {f : Bool → Bool} (hf : f true = r) : OpD c (rSame r c.K) (fun x y k => sameD x y ∧ k (.d (.bl (f true)))) := by
  intro B G H σ δ r1 r2 v1 v2 x y Ψ Q F h1 h2 e1 e2 hf' k
  obtain ⟨⟨xs, d, rfl, rfl, hp, h0, hd⟩, q⟩ := hf'
  rw [hf] at q
  exact ⟨xs, d, view_repH F h1 e1, view_repH F h2 e2, hp, h0, hd, k _ _ G H q (Ex.refl G) (Ex.refl H) F (rep_bl (K := c.K) (G := G))⟩
theorem opd_eqB : OpD c (rEqB c.K) (dEqB id) := by
  intro B G H σ δ r1 r2 v1 v2 x y Ψ Q F h1 h2 e1 e2 hf k
  rcases hf with hf | hf
  · exact .inl (opd_eq B G H σ δ r1 r2 v1 v2 x y Ψ Q F h1 h2 e1 e2 hf k)
  · exact .inr (opd_same true (f := id) rfl B G H σ δ r1 r2 v1 v2 x y Ψ Q F h1 h2 e1 e2 hf k)
theorem opd_neB : OpD c (rNeB c.K) (dEqB not) := by
  intro B G H σ δ r1 r2 v1 v2 x y Ψ Q F h1 h2 e1 e2 hf k
  rcases hf with hf | hf
  · exact .inl (opd_ne B G H σ δ r1 r2 v1 v2 x y Ψ Q F h1 h2 e1 e2 hf k)
  · exact .inr (opd_same false (f := not) rfl B G H σ δ r1 r2 v1 v2 x y Ψ Q F h1 h2 e1 e2 hf k)
end
theorem dEqB_F {f : Bool → Bool} {x y : D} {k : R → Prop} (h : dEqF f x y k) : dEqB f x y k := .inl h
theorem dEqB_same {f : Bool → Bool} {x y : D} {k : R → Prop} (h : sameD x y) (q : k (.d (.bl (f true)))) : dEqB f x y k := .inr ⟨h, q⟩
theorem dEqB_sI {x y : D} {b : Bool} {k : R → Prop} (e : sEq x y = some b) (h : k (.d (.bl b))) : dEqB id x y k := .inl (dEq_sI e h)
theorem dEqB_sN {x y : D} {b : Bool} {k : R → Prop} (e : sEq x y = some b) (h : k (.d (.bl (!b)))) : dEqB not x y k := .inl (dEq_sN e h)
end DL

namespace Lw
open PySem PySem.Spec PyProof.Rows L2 DL TL
open Evl (Ex)
abbrev St := L2.St
abbrev R := DL.R
/-- a box: three numbers, at most n draws behind -/
def BoxD (n : Nat) (x : D) : Prop := ∃ x0 x1 x2 : Int, x = .lst [.int x0, .int x1, .int x2] ∧ 0 ≤ x1 ∧ x1 < 2147483648 ∧ 0 ≤ x2 ∧ x2 ≤ n
def wholeB : D → Int → Int → Bool
  | .int i, lo, hi => decide (lo ≤ i) && decide (i ≤ hi)
  | _, _, _ => false
/-- how many figures go -/
def kk (n b : Nat) : Nat := Nat.log2 n + 1 - b
/-- rounded upward -/
def rd (n b : Nat) : Nat := (n + 2 ^ kk n b - 1) / 2 ^ kk n b * 2 ^ kk n b
def S_l_cell : SpD := fun as Φ => ∃ (ns : List Int) (k : Nat), as = [.d (.ro (ns.map .int)), .d (.int k)] ∧ ns.length ≤ 63 ∧ ∀ v : Int, Φ (.d (.int v)) as
def S_l_box : SpD := fun as Φ => ∃ v : Int, as = [.d (.int v)] ∧ ∀ b x, BoxD 0 x → Φ (.own b x) as
def S_l_take : SpD := fun as Φ => ∃ b x n m, as = [.own b x, .d (.int m)] ∧ BoxD n x ∧ n < 1000000 ∧ 0 < m ∧ m < 2 ^ 200 ∧ ∀ r x', 0 ≤ r → r < m → BoxD (n + 1) x' → Φ (.d (.int r)) [.own b x', .d (.int m)]
def S_is_whole : SpD := fun as Φ => ∃ x lo hi, as = [.d x, .d (.int lo), .d (.int hi)] ∧ (tyD x).isSome = true ∧ Φ (.d (.bl (wholeB x lo hi))) as
def S_need_bits : SpX := fun as Φ Y => ∃ x, as = [.d x] ∧ (tyD x).isSome = true ∧ (wholeB x 1 40 = true → Φ (.d .non) as) ∧ (wholeB x 1 40 = false → Y 1 x)
def S_raised_to : SpD := fun as Φ => ∃ n b : Nat, as = [.d (.int n), .d (.int b)] ∧ n ≤ 10000000000000 ∧ 1 ≤ b ∧ b ≤ 40 ∧ Φ (.d (.int (rd n b : Nat))) as
def S_rounded : SpX := fun as Φ Y => ∃ x y, as = [.d x, .d y] ∧ (tyD x).isSome = true ∧ (tyD y).isSome = true ∧ (wholeB x 0 10000000000000 = false → Y 0 x) ∧ (wholeB x 0 10000000000000 = true → wholeB y 1 40 = false → Y 1 y) ∧
  (∀ n b : Nat, x = .int n → y = .int b → n ≤ 10000000000000 → 1 ≤ b → b ≤ 40 → Φ (.d (.int (rd n b : Nat))) as)
def S_l_number : SpD := fun as Φ => ∃ b x n, as = [.own b x] ∧ BoxD n x ∧ n + 3 < 1000000 ∧ ∀ (v : Nat) x', v ≤ 10000000000000 → BoxD (n + 3) x' → Φ (.d (.int v)) [.own b x']
def S_l_bits : SpD := fun as Φ => ∃ b x n, as = [.own b x] ∧ BoxD n x ∧ n + 3 < 1000000 ∧ ∀ (v : Nat) x', 1 ≤ v → v ≤ 40 → BoxD (n + 3) x' → Φ (.d (.int v)) [.own b x']
def S_l_due : SpD := fun as Φ => ∃ n b : Nat, as = [.d (.int n), .d (.int b)] ∧ n ≤ 10000000000000 ∧ 1 ≤ b ∧ b ≤ 40 ∧ Φ (.d (.int (rd n b : Nat))) as
def refD (x y : D) : D := if wholeB x 0 10000000000000 = false then .lst [.str "number", x] else .lst [.str "bits", y]
def S_l_refused : SpD := fun as Φ => ∃ x y, as = [.d x, .d y] ∧ (tyD x).isSome = true ∧ (tyD y).isSome = true ∧ (wholeB x 0 10000000000000 = false ∨ wholeB y 1 40 = false) ∧ Φ (.d (refD x y)) as
def S_l_right : SpD := fun as Φ => ∃ n b : Nat, as = [.d (.int n), .d (.int b)] ∧ n ≤ 10000000000000 ∧ 1 ≤ b ∧ b ≤ 40 ∧ Φ (.d (.bl true)) as
def S_law : SpD := fun as Φ => ∃ ns : List Int, as = [.d (.ro (ns.map .int))] ∧ ns.length ≤ 63 ∧ Φ (.d (.bl true)) as

abbrev XNoBits : Nat := 1
abbrev XNoNumber : Nat := 0
abbrev N_is_whole : List Str := ["thing", "low", "high"]
abbrev N_need_bits : List Str := ["thing"]
abbrev N_raised_to : List Str := ["number", "bits", "behind"]
abbrev N_rounded : List Str := ["number", "bits"]
abbrev N_l_cell : List Str := ["_law_script", "_law_k"]
abbrev N_l_box : List Str := ["_law_cell_here"]
abbrev N_l_take : List Str := ["_law_box_here", "_law_many", "_law_digit", "_law_one", "_law_other"]
abbrev N_l_number : List Str := ["_law_box_here", "_law_way"]
abbrev N_l_bits : List Str := ["_law_box_here"]
abbrev N_l_due : List Str := ["_law_number_here", "_law_bits_here", "_law_unit"]
abbrev N_l_refused : List Str := ["_law_number_here", "_law_bits_here", "_law_found", "e"]
abbrev N_l_right : List Str := ["_law_number_here", "_law_bits_here", "_law_due_here", "_law_found"]
abbrev N_law : List Str := ["_law_script", "_law_k", "_law_box_here", "_law_first", "_law_some", "_law_odd", "_law_wrong", "_law_number_here", "_law_bits_here"]
def t_is_whole (K : PySem.W.Frag) (cn : Cn) : TS :=
  (tSeq (tIfS (tOr (tNot (tTruth K (tCB (rIsiA K) (tCons (tVar 0) (tCons (tC (.ty "int")) tNil))))) (tTruth K (tCB (rIsiA K) (tCons (tVar 0) (tCons (tC (.ty "bool")) tNil))))) (tRet (tC (.bl false))) tNext)
    (tRet (tChain rLeA rLeA (tVar 1) (tVar 0) (tVar 2))))
def t_need_bits (K : PySem.W.Frag) (cn : Cn) (W : WX) : TS :=
  (tIfS (tNot (tTruth K (tCall (lift K S_is_whole) [] E0 (tCons (tVar 0) (tCons (tC (.int 1)) (tCons (tC (.int 40)) tNil)))))) (fun _ σ H => tMkO (cn.ad 1) (spInit K "found") [] (tCons (tVar 0) tNil) σ H fun cls d H' => W cls d σ H') tNext)
def t_raised_to (K : PySem.W.Frag) (cn : Cn) : TS :=
  (tSeq (tAsg (tC (.int 0)) (gName 2))
    (tSeq (tWhile (tTest (tOp rGeA (tOp rShrA (tVar 0) (tVar 2)) (tOp rShlA (tC (.int 1)) (tVar 1)))) (tAug 2 (tC (.int 1)) rAddI))
    (tRet (tOp rShlA (tOp rShrA (tOp rSubA (tOp rAddA (tVar 0) (tOp rShlA (tC (.int 1)) (tVar 2))) (tC (.int 1))) (tVar 2)) (tVar 2)))))
def t_rounded (K : PySem.W.Frag) (cn : Cn) (W : WX) : TS :=
  (tSeq (tIfS (tNot (tTruth K (tCall (lift K S_is_whole) [] E0 (tCons (tVar 0) (tCons (tC (.int 0)) (tCons (tC (.int 10000000000000)) tNil)))))) (fun _ σ H => tMkO (cn.ad 0) (spInit K "found") [] (tCons (tVar 0) tNil) σ H fun cls d H' => W cls d σ H') tNext)
    (tSeq (tDrop (tCallS (liftX K cn S_need_bits) (L2.WE W) (tCons (tVar 1) tNil)))
    (tRet (tCall (lift K S_raised_to) [] E0 (tCons (tVar 0) (tCons (tVar 1) tNil))))))
def t_l_cell (K : PySem.W.Frag) (cn : Cn) : TS :=
  (tSeq (tIfS (tTest (tOp rLtA (tVar 1) (tCB (rLenA K) (tCons (tVar 0) tNil)))) (tRet (tOp (rIx K) (tVar 0) (tVar 1))) tNext)
    (tRet (tOp rAddA (tOp rMulB (tC (.int 15485863)) (tVar 1)) (tC (.int 71)))))
def t_l_box (K : PySem.W.Frag) (cn : Cn) : TS :=
  (tRet (tLst (tCons (tCB rMax2 (tCons (tC (.int 0)) (tCons (tOp rSubA (tVar 0) (tOp rPowA (tC (.int 10)) (tC (.int 18)))) tNil))) (tCons (tOp rModA (tVar 0) (tC (.int 2147483629))) (tCons (tC (.int 0)) tNil)))))
def t_l_take (K : PySem.W.Frag) (cn : Cn) : TS :=
  (tSeq (tIfS (tTest (tOp rGtA (tOp (rIx K) (tVar 0) (tC (.int 0))) (tC (.int 0)))) (tSeq (tAsg (tOp rModA (tOp (rIx K) (tVar 0) (tC (.int 0))) (tVar 1)) (gName 2))
    (tSeq (tAsg (tOp rDivA (tOp (rIx K) (tVar 0) (tC (.int 0))) (tVar 1)) (gSub (tVar 0) (tC (.int 0)) rSetL))
    (tRet (tVar 2)))) tNext)
    (tSeq (tAsg (tOp rAddA (tOp (rIx K) (tVar 0) (tC (.int 2))) (tC (.int 1))) (gSub (tVar 0) (tC (.int 2)) rSetL))
    (tSeq (tAsg (tOp rModA (tOp rPowA (tOp rAddA (tOp rAddA (tOp rMulB (tOp (rIx K) (tVar 0) (tC (.int 1))) (tOp rAddA (tOp rMulB (tC (.int 2)) (tOp (rIx K) (tVar 0) (tC (.int 2)))) (tC (.int 1)))) (tOp rMulB (tC (.int 7919)) (tOp (rIx K) (tVar 0) (tC (.int 2))))) (tC (.int 11))) (tC (.int 5))) (tC (.int 2147483647))) (gName 3))
    (tSeq (tAsg (tOp rModA (tOp rPowA (tOp rAddA (tOp rMulB (tVar 3) (tOp rAddA (tOp (rIx K) (tVar 0) (tC (.int 2))) (tC (.int 3)))) (tC (.int 104729))) (tC (.int 3))) (tC (.int 2147483587))) (gName 4))
    (tRet (tOp rModA (tOp rAddA (tOp rDivA (tVar 3) (tC (.int 8))) (tOp rDivA (tVar 4) (tC (.int 4)))) (tVar 1)))))))
def t_l_number (K : PySem.W.Frag) (cn : Cn) : TS :=
  (tSeq (tAsg (tCall (lift K S_l_take) [] E0 (tCons (tVar 0) (tCons (tC (.int 5)) tNil))) (gName 1))
    (tSeq (tIfS (tTest (tOp (rEqA K) (tVar 1) (tC (.int 0)))) (tRet (tCall (lift K S_l_take) [] E0 (tCons (tVar 0) (tCons (tC (.int 40)) tNil)))) tNext)
    (tSeq (tIfS (tTest (tOp (rEqA K) (tVar 1) (tC (.int 1)))) (tRet (tOp rSubA (tOp rPowA (tC (.int 10)) (tC (.int 13))) (tCall (lift K S_l_take) [] E0 (tCons (tVar 0) (tCons (tC (.int 3)) tNil))))) tNext)
    (tSeq (tIfS (tTest (tOp (rEqA K) (tVar 1) (tC (.int 2)))) (tRet (tOp rSubA (tOp rAddA (tOp rShlA (tC (.int 1)) (tCall (lift K S_l_take) [] E0 (tCons (tVar 0) (tCons (tC (.int 43)) tNil)))) (tCall (lift K S_l_take) [] E0 (tCons (tVar 0) (tCons (tC (.int 3)) tNil)))) (tC (.int 1)))) tNext)
    (tSeq (tIfS (tTest (tOp (rEqA K) (tVar 1) (tC (.int 3)))) (tRet (tCall (lift K S_l_take) [] E0 (tCons (tVar 0) (tCons (tOp rPowA (tC (.int 10)) (tC (.int 6))) tNil)))) tNext)
    (tRet (tOp rAddA (tOp rMulB (tCall (lift K S_l_take) [] E0 (tCons (tVar 0) (tCons (tOp rPowA (tC (.int 10)) (tC (.int 7))) tNil))) (tOp rPowA (tC (.int 10)) (tC (.int 6)))) (tCall (lift K S_l_take) [] E0 (tCons (tVar 0) (tCons (tOp rPowA (tC (.int 10)) (tC (.int 6))) tNil))))))))))
def t_l_bits (K : PySem.W.Frag) (cn : Cn) : TS :=
  (tRet (tOp (rIx K) (tLst (tCons (tC (.int 1)) (tCons (tC (.int 2)) (tCons (tOp rAddA (tC (.int 1)) (tCall (lift K S_l_take) [] E0 (tCons (tVar 0) (tCons (tC (.int 6)) tNil)))) (tCons (tOp rAddA (tC (.int 1)) (tCall (lift K S_l_take) [] E0 (tCons (tVar 0) (tCons (tC (.int 40)) tNil)))) tNil))))) (tCall (lift K S_l_take) [] E0 (tCons (tVar 0) (tCons (tC (.int 4)) tNil)))))
def t_l_due (K : PySem.W.Frag) (cn : Cn) : TS :=
  (tSeq (tAsg (tC (.int 1)) (gName 2))
    (tSeq (tWhile (tTest (tOp rGeA (tVar 0) (tOp rMulB (tVar 2) (tOp rShlA (tC (.int 1)) (tVar 1))))) (tAsg (tOp rMulB (tC (.int 2)) (tVar 2)) (gName 2)))
    (tRet (tOp rMulB (tOp rDivA (tOp rSubA (tOp rAddA (tVar 0) (tVar 2)) (tC (.int 1))) (tVar 2)) (tVar 2)))))
def t_l_refused (K : PySem.W.Frag) (cn : Cn) : TS :=
  (tSeq (tAsg (tLst tNil) (gName 2))
    (tSeq (tTry K (.ref cn.bs) 3 (fun W => (tDrop (tCallS (liftX K cn S_rounded) (L2.WE W) (tCons (tVar 0) (tCons (tVar 1) tNil))))) (fun a cls d => (tSeq (tIfS (tTruth K (tCB (rIsG K a cls d) (tCons (tVar 3) (tCons (tC (.ref (cn.ad 0))) tNil)))) (tDrop (tBM K "list" rAppend (tVar 2) (tCons (tLst (tCons (tC (.str "number")) (tCons (tXfX K a cls d "found" (tVar 3)) tNil))) tNil))) tNext)
    (tIfS (tTruth K (tCB (rIsG K a cls d) (tCons (tVar 3) (tCons (tC (.ref (cn.ad 1))) tNil)))) (tDrop (tBM K "list" rAppend (tVar 2) (tCons (tLst (tCons (tC (.str "bits")) (tCons (tXfX K a cls d "found" (tVar 3)) tNil))) tNil))) tNext))))
    (tRet (tIf (tTest (tOp (rEqA K) (tCB (rLenA K) (tCons (tVar 2) tNil)) (tC (.int 1)))) (tOp (rIx K) (tVar 2) (tC (.int 0))) (tLst (tCons (tC (.str "other")) tNil))))))
def t_l_right (K : PySem.W.Frag) (cn : Cn) : TS :=
  (tSeq (tAsg (tCall (lift K S_l_due) [] E0 (tCons (tVar 0) (tCons (tVar 1) tNil))) (gName 2))
    (tSeq (tAsg (tCall (liftX K cn S_rounded) [] E0 (tCons (tVar 0) (tCons (tVar 1) tNil))) (gName 3))
    (tSeq (tIfS (tOr (tNot (tTruth K (tCB (rIsiA K) (tCons (tVar 3) (tCons (tC (.ty "int")) tNil))))) (tOr (tTruth K (tCB (rIsiA K) (tCons (tVar 3) (tCons (tC (.ty "bool")) tNil)))) (tTest (tOp (rNeA K) (tVar 3) (tVar 2))))) (tRet (tC (.bl false))) tNext)
    (tSeq (tIfS (tTest (tOp rGtA (tOp rMulB (tOp rSubA (tVar 3) (tVar 0)) (tOp rShlA (tC (.int 1)) (tOp rSubA (tVar 1) (tC (.int 1))))) (tVar 0))) (tRet (tC (.bl false))) tNext)
    (tSeq (tIfS (tAnd (tTest (tOp rLeA (tVar 3) (tOp rPowA (tC (.int 10)) (tC (.int 13))))) (tTest (tOp (rNeA K) (tCall (liftX K cn S_rounded) [] E0 (tCons (tVar 3) (tCons (tVar 1) tNil))) (tVar 3)))) (tRet (tC (.bl false))) tNext)
    (tRet (tOrV (tOp (rEqA K) (tVar 1) (tC (.int 40))) (tOp rLeA (tCall (liftX K cn S_rounded) [] E0 (tCons (tVar 0) (tCons (tOp rAddA (tVar 1) (tC (.int 1))) tNil))) (tVar 3)))))))))
def t_law (K : PySem.W.Frag) (cn : Cn) : TS :=
  (tSeq (tFor (iRng1 (tCons (tCB rMax2 (tCons (tC (.int 2)) (tCons (tCB rMin2 (tCons (tCB (rLenA K) (tCons (tVar 0) tNil)) (tCons (tC (.int 30)) tNil))) tNil))) tNil)) (gName 1) (tSeq (tAsg (tCall (lift K S_l_box) [] E0 (tCons (tCall (lift K S_l_cell) [] E0 (tCons (tVar 0) (tCons (tVar 1) tNil))) tNil)) (gName 2))
    (tSeq (tAsg (tCall (lift K S_l_take) [] E0 (tCons (tVar 2) (tCons (tC (.int 2)) tNil))) (gName 3))
    (tSeq (tAsg (tLst (tCons (tUn uNegA (tC (.int 1))) (tCons (tOp rAddA (tOp rPowA (tC (.int 10)) (tC (.int 13))) (tC (.int 1))) (tCons (tC (.bl true)) (tCons (tC .non) (tCons (tC (.str "5")) (tCons (tLst (tCons (tC (.int 1)) tNil)) (tCons (tTup tNil) (tCons tDNewK (tCons (tOp rPowA (tC (.int 10)) (tC (.int 29))) (tCons (tC (.bl false)) tNil))))))))))) (gName 4))
    (tSeq (tAsg (tOp (rIx K) (tVar 4) (tCall (lift K S_l_take) [] E0 (tCons (tVar 2) (tCons (tC (.int 10)) tNil)))) (gName 5))
    (tSeq (tAsg (tOp (rIx K) (tLst (tCons (tC (.int 0)) (tCons (tC (.int 41)) (tCons (tUn uNegA (tC (.int 1))) (tCons (tC (.bl true)) (tCons (tC .non) (tCons (tC (.str "1")) (tCons (tLst (tCons (tC (.int 1)) tNil)) (tCons (tTup tNil) (tCons tDNewK (tCons (tOp rPowA (tC (.int 10)) (tC (.int 29))) tNil))))))))))) (tCall (lift K S_l_take) [] E0 (tCons (tVar 2) (tCons (tC (.int 10)) tNil)))) (gName 6))
    (tSeq (tAsg (tCall (lift K S_l_number) [] E0 (tCons (tVar 2) tNil)) (gName 7))
    (tSeq (tAsg (tCall (lift K S_l_bits) [] E0 (tCons (tVar 2) tNil)) (gName 8))
    (tSeq (tIfS (tAnd (tTest (tOp (rEqB K) (tVar 3) (tC (.int 0)))) (tTest (tOp (rNeB K) (tCall (lift K S_l_refused) [] E0 (tCons (tVar 5) (tCons (tVar 6) tNil))) (tLst (tCons (tC (.str "number")) (tCons (tVar 5) tNil)))))) (tRet (tC (.bl false))) tNext)
    (tSeq (tIfS (tOr (tNot (tTruth K (tCall (lift K S_l_right) [] E0 (tCons (tVar 7) (tCons (tVar 8) tNil))))) (tNot (tTruth K (tCall (lift K S_l_right) [] E0 (tCons (tC (.int 0)) (tCons (tVar 8) tNil)))))) (tRet (tC (.bl false))) tNext)
    (tSeq (tIfS (tOr (tTest (tOp (rNeB K) (tCall (lift K S_l_refused) [] E0 (tCons (tVar 5) (tCons (tVar 8) tNil))) (tLst (tCons (tC (.str "number")) (tCons (tVar 5) tNil))))) (tTest (tOp (rNeB K) (tCall (lift K S_l_refused) [] E0 (tCons (tVar 7) (tCons (tVar 6) tNil))) (tLst (tCons (tC (.str "bits")) (tCons (tVar 6) tNil)))))) (tRet (tC (.bl false))) tNext)
    (tIfS (tOr (tTest (tOp (rNeB K) (tCB (rReprA K) (tCons (tCall (lift K S_l_refused) [] E0 (tCons (tVar 5) (tCons (tVar 6) tNil))) tNil)) (tCB (rReprA K) (tCons (tLst (tCons (tC (.str "number")) (tCons (tVar 5) tNil))) tNil)))) (tNot (tTruth K (tCall (lift K S_l_right) [] E0 (tCons (tVar 7) (tCons (tOp rSubA (tC (.int 41)) (tVar 8)) tNil)))))) (tRet (tC (.bl false))) tNext))))))))))))
    (tRet (tC (.bl true))))
structure XF (K : PySem.W.Frag) (cn : Cn) : Prop where
  all0 : ExcAll K (cn.ad 0) (cn.fl 0)
  fl0 : cn.fl 0 = "found"
  ex0 : PySem.W.exmOne K (.ref (cn.ad 0)) (.ref cn.bs) = some true
  kit0_0 : PySem.W.kitOne K (.ref (cn.ad 0)) (.ref (cn.ad 0)) = some true
  kit0_1 : PySem.W.kitOne K (.ref (cn.ad 0)) (.ref (cn.ad 1)) = some false
  all1 : ExcAll K (cn.ad 1) (cn.fl 1)
  fl1 : cn.fl 1 = "found"
  ex1 : PySem.W.exmOne K (.ref (cn.ad 1)) (.ref cn.bs) = some true
  kit1_0 : PySem.W.kitOne K (.ref (cn.ad 1)) (.ref (cn.ad 0)) = some false
  kit1_1 : PySem.W.kitOne K (.ref (cn.ad 1)) (.ref (cn.ad 1)) = some true

local macro_rules | `(tactic| walk_at "d1") => `(tactic| first
  | (with_reducible refine' w_seq ?_)
  | (with_reducible refine' w_asg ?_)
  | (with_reducible refine' w_if ?_)
  | (with_reducible refine' w_ret ?_)
  | (with_reducible refine' w_retN ?_)
  | (with_reducible refine' w_next ?_)
  | (with_reducible refine' w_drop ?_)
  | (with_reducible refine' w_parN ?_)
  | ((with_reducible refine' w_augN opd_addI _ ?h ?q); (case h => rfl))
  | ((with_reducible refine' we_var ?h ?q); (case h => rfl))
  | (with_reducible refine' we_ci ?_)
  | (with_reducible refine' we_cs ?_)
  | (with_reducible refine' we_cb' ?_)
  | (with_reducible refine' we_cn ?_)
  | (with_reducible refine' we_cp ?_)
  | (with_reducible refine' we_cb cad_reprA ?_)
  | (with_reducible refine' we_ct ?_)
  | (with_reducible refine' wa_nil ?_)
  | (with_reducible refine' wa_cons ?_)
  | ((with_reducible refine' wg_nameN ?h ?h2 ?q); (case h => rfl); (case h2 => ((dsimp only [backAs, DL.fill, clr, frz, List.set_cons_zero, List.set_cons_succ, Int.reduceToNat]) <;> rfl)))
  | (with_reducible refine' wg_setLN ?_)
  | ((with_reducible refine' ex_ownl ?h ?q); (case h => rfl))
  | (with_reducible refine' wg_s2t ?_)
  | (with_reducible refine' wg_s2l ?_)
  | (with_reducible refine' wg_s2o ?_)
  | (with_reducible refine' wg_s3t ?_)
  | (with_reducible refine' wg_s3l ?_)
  | (with_reducible refine' wg_s3o ?_)
  | (with_reducible refine' we_call ?_)
  | (with_reducible refine' we_append ?_)
  | (with_reducible refine' we_op opd_addA' ?_)
  | (with_reducible refine' we_op opd_subA ?_)
  | (with_reducible refine' we_op opd_mulB ?_)
  | (with_reducible refine' we_op opd_divA ?_)
  | (with_reducible refine' we_op opd_modA ?_)
  | (with_reducible refine' we_op opd_powA ?_)
  | (with_reducible refine' we_op opd_shlA ?_)
  | (with_reducible refine' we_op opd_shrA ?_)
  | (with_reducible refine' we_op opd_ltA ?_)
  | (with_reducible refine' we_op opd_leA ?_)
  | (with_reducible refine' we_op opd_gtA ?_)
  | (with_reducible refine' we_op opd_geA ?_)
  | (with_reducible refine' we_op opd_eq ?_)
  | (with_reducible refine' we_op opd_eqB ?_)
  | (with_reducible refine' we_op opd_neB ?_)
  | (with_reducible refine' we_op opd_ne ?_)
  | (with_reducible refine' we_op opd_inI ?_)
  | (with_reducible refine' we_op opd_inN ?_)
  | (with_reducible refine' we_op opd_isNA ?_)
  | (with_reducible refine' we_op opd_notNA ?_)
  | (with_reducible refine' we_op opd_isB ?_)
  | (with_reducible refine' we_op opd_notB ?_)
  | (with_reducible refine' we_op opd_ix ?_)
  | (with_reducible refine' we_negA ?_)
  | (with_reducible refine' we_lst ?_)
  | (with_reducible refine' we_tup ?_)
  | (with_reducible refine' we_dnew ?_)
  | (with_reducible refine' we_sl ?_)
  | (with_reducible refine' wo_no ?_)
  | (with_reducible refine' wo_part ?_)
  | (with_reducible refine' we_cb cad_len ?_)
  | (with_reducible refine' we_cb cad_isi ?_)
  | (with_reducible refine' we_cb cad_max2 ?_)
  | (with_reducible refine' we_cb cad_min2 ?_)
  | (with_reducible refine' we_cb cad_int ?_)
  | (with_reducible refine' we_cb cad_str ?_)
  | (with_reducible refine' we_cb cad_all ?_)
  | (with_reducible refine' we_cb cad_any ?_)
  | (with_reducible refine' we_cb cad_list ?_)
  | (with_reducible refine' we_cb cad_tuple ?_)
  | (with_reducible refine' we_cb cad_divmod ?_)
  | (with_reducible refine' we_revL ?_)
  | (with_reducible refine' we_bm med_find3 ?_)
  | (with_reducible refine' ex_find3 ?_)
  | ((with_reducible refine' ex_vm2 ?h1 ?h2 ?h3 ?q); (case h1 => first | rfl | exact view_bor rfl); (case h2 => first | rfl | exact view_bor rfl); (case h3 => first | rfl | exact view_bor rfl))
  | ((with_reducible refine' ex_divmod ?h ?q); (case h => exact ⟨by omega, by omega⟩))
  | ((with_reducible refine' ex_rev ?h ?q); (case h => first | rfl | exact view_bor rfl))
  | (with_reducible refine' dIntC_b ?_)
  | (with_reducible refine' wt_test ?_)
  | (with_reducible refine' wt_truth ?_)
  | (with_reducible refine' wt_and ?_)
  | (with_reducible refine' wt_or ?_)
  | (with_reducible refine' wt_not ?_)
  | (with_reducible refine' wt_yes ?_)
  | (with_reducible refine' we_andV ?_)
  | (with_reducible refine' we_orV ?_)
  | (with_reducible refine' we_notV ?_)
  | (with_reducible refine' we_if ?_)
  | (with_reducible refine' we_chain opd_leA opd_leA ?_)
  | (with_reducible refine' we_chain opd_ltA opd_ltA ?_)
  | (with_reducible refine' we_chain opd_ltA opd_leA ?_)
  | (with_reducible refine' we_chain opd_leA opd_ltA ?_)
  | (with_reducible refine' dInt0_i ?_)
  | (with_reducible refine' dAdd_i ?_)
  | (with_reducible refine' dAddI_i ?_)
  | ((with_reducible refine' dEq_sI ?h ?q); (case h => rfl))
  | ((with_reducible refine' dEq_sN ?h ?q); (case h => rfl))
  | ((with_reducible refine' dEqB_sI ?h ?q); (case h => rfl))
  | ((with_reducible refine' dEqB_sN ?h ?q); (case h => rfl))
  | (with_reducible refine' dIn_sI ?_)
  | (with_reducible refine' dIn_sN ?_)
  | (with_reducible refine' dIsB_I ?_)
  | (with_reducible refine' dIsB_N ?_)
  | (with_reducible refine' dIsN_I ?_)
  | (with_reducible refine' dIsN_N ?_)
  | ((with_reducible refine' dPow_ ?h1 ?h2 ?q); (case h1 => first | ((dsimp only [Int.reduceToNat, Int.reducePow]) <;> rfl) | rfl); (case h2 => first | exact ⟨by decide, by decide, by decide⟩ | exact ⟨by omega, by omega, by omega⟩))
  | ((with_reducible refine' dInt_i ?h ?q); (case h => first | omega | (dsimp only; omega) | exact cdiv_ok (by omega) (by omega) | assumption | exact ⟨by decide, by decide, by decide⟩ | exact ⟨by omega, by omega, by omega⟩))
  | ((with_reducible refine' dMul_i ?h ?q); (case h => first | (left; left; exact ⟨by omega, by omega⟩) | (left; right; exact ⟨by omega, by omega⟩)))
  | (with_reducible refine' ex_trb ?_)
  | (with_reducible refine' ex_bl ?_)
  | (with_reducible refine' ex_int ?_)
  | (with_reducible refine' ex_two ?_)
  | ((with_reducible refine' ex_op ?h1 ?h2 ?q); (case h1 => first | rfl | exact view_bor rfl); (case h2 => first | rfl | exact view_bor rfl))
  | ((with_reducible refine' ex_dat ?h1 ?q); (case h1 => rfl))
  | (with_reducible refine' ex_bor ?_)
  | ((with_reducible refine' ex_setN ?h1 ?h2 ?q); (case h1 => rfl); (case h2 => rfl))
  | ((with_reducible refine' ex_appN ?h1 ?h2 ?q); (case h1 => rfl); (case h2 => first | omega | (simp only [List.length_append, List.length_map, List.length_cons, List.length_nil] at *; omega)))
  | ((with_reducible refine' ex_sl ?h1 ?q); (case h1 => rfl))
  | (with_reducible refine' ex_par ?_)
  | ((with_reducible refine' all_eqN ?h2 ?q); (case h2 => ((dsimp only [backAs, DL.fill, clr, frz, List.set_cons_zero, List.set_cons_succ, Int.reduceToNat]) <;> rfl)))
  | ((with_reducible refine' ex_call ?h1 ?h2 ?h3 ?q); (case h1 => repeat first | exact toAs_nil | apply toAs_d | apply toAs_b rfl); (case h2 => first | exact List.nodup_nil | exact List.nodup_singleton _ | simp [owned]); (case h3 => first | exact fun h => nomatch h | exact fun _ => rfl))
  | ((with_reducible refine' ex_mu1 ?h ?q); (case h => rfl))
  | ((with_reducible refine' dIx_l ?h ?q); (case h => rfl))
  | ((with_reducible refine' dIx_t ?h ?q); (case h => rfl))
  | ((with_reducible refine' ex_lsd ?h1 ?h2 ?q); (case h1 => repeat first | exact datas_nil | apply datas_cons); (case h2 => first | exact Nat.le_of_ble_eq_true rfl | simp))
  | ((with_reducible refine' ex_vs1 ?h1 ?q); (case h1 => first | rfl | exact view_bor rfl))
  | ((with_reducible refine' ex_vs2 ?h1 ?h2 ?q); (case h1 => first | rfl | exact view_bor rfl); (case h2 => first | rfl | exact view_bor rfl))
  | ((with_reducible refine' ex_vs3 ?h1 ?h2 ?h3 ?q); (case h1 => first | rfl | exact view_bor rfl); (case h2 => first | rfl | exact view_bor rfl); (case h3 => first | rfl | exact view_bor rfl))
  | ((with_reducible refine' ex_isi ?h1 ?q); (case h1 => first | (exact isi_int (by first | rfl | assumption)) | (exact isi_bl (by first | rfl | assumption)) | (exact isi_str (by first | rfl | assumption))))
  | ((with_reducible refine' ex_len ?h1 ?h2 ?q); (case h1 => first | assumption | trivial | (show _ ≤ _; omega) | (show _ ≤ _; decide +kernel)); (case h2 => rfl))
  | (with_reducible refine' we_bm med_find ?_)
  | (with_reducible refine' we_bm med_join ?_)
  | ((with_reducible refine' ex_ty ?h1 ?h2 ?q); (case h1 => first | rfl | exact view_bor rfl); (case h2 => rfl))
  | ((with_reducible refine' ex_vm1 ?h1 ?h2 ?q); (case h1 => first | rfl | exact view_bor rfl); (case h2 => first | rfl | exact view_bor rfl))
  | (with_reducible refine' ex_find ?_)
  | (show ∀ _ : Addr, _; intro _)
  | ((with_reducible refine' ex_view ?h1 ?q); (case h1 => rfl))
  | ((refine' ex_appN ?h1 ?h2 ?q); (case h1 => rfl); (case h2 => first | omega | (simp only [List.length_append, List.length_map, List.length_cons, List.length_nil] at *; omega)))
  | (with_reducible refine' br_t ?_)
  | (with_reducible refine' br_f ?_)
  | (with_reducible refine' br_not (br_t ?_))
  | (with_reducible refine' br_not (br_f ?_)))
local macro_rules | `(tactic| walk_at "d0") => `(tactic| dsimp only [List.cons_append, List.nil_append])
local macro_rules | `(tactic| walk_at "d") => `(tactic| repeat walk_at "d1")
local macro_rules | `(tactic| walk_at "ds") => `(tactic| dsimp only [isIntD, isBlD, isStrD, isNon, id, List.set_cons_zero, List.set_cons_succ])
local macro_rules | `(tactic| walk_at "k") => `(tactic| dsimp only [backAs, DL.fill, clr, frz, List.set_cons_zero, List.set_cons_succ])

local macro_rules | `(tactic| walk_at "x") => `(tactic| first | (with_reducible refine' br_f (w_next ?_)) | (with_reducible refine' br_t (w_next ?_)) | (with_reducible refine' w_next ?_) | skip)
local macro_rules | `(tactic| walk_at "i") => `(tactic| repeat ((fail_if_success (with_reducible refine' w_if ?_)); walk_at "d1"))

theorem ws_l_cell : WsC (Fx := XF) S_l_cell t_l_cell [] := by
  rintro K cn as Φ fx ⟨ns, k, rfl, hl, h⟩
  unfold t_l_cell
  walk_at "d0"
  walk_at "d"
  refine br_d (fun h1 => ?_) (fun h1 => ?_)
  · walk_at "d"
    rw [List.length_map] at h1
    have hk : k < ns.length := by omega
    refine dIx_r (atI_nat (j := k) (by rw [List.getElem?_map, List.getElem?_eq_getElem hk]; rfl)) ?_
    exact ⟨trivial, h _⟩
  · walk_at "d"
    exact ⟨trivial, h _⟩
theorem ws_l_box : WsC (Fx := XF) S_l_box t_l_box [] := by
  rintro K cn as Φ fx ⟨v, rfl, h⟩
  unfold t_l_box
  walk_at "d0"
  walk_at "d"
  refine ⟨trivial, h _ _ ⟨_, _, _, rfl, ?_, ?_, ?_, ?_⟩⟩ <;> omega
theorem box_bound {x t : Int} (h1 : 0 ≤ x) (h2 : x < 2147483648) (h3 : 0 ≤ t) (h4 : t ≤ 1000000) : (x * (2 * t + 1) + 7919 * t + 11).natAbs < 2 ^ 64 := by
  have a1 : 0 ≤ x * (2 * t + 1) := Int.mul_nonneg h1 (by omega)
  have a2 : x * (2 * t + 1) ≤ 2147483648 * 2000001 := Int.mul_le_mul (by omega) (by omega) (by omega) (by decide)
  omega
theorem box_bound2 {z t : Int} (h0 : 0 ≤ z) (h00 : z < 2147483647) (h3 : 0 ≤ t) (h4 : t ≤ 1000000) : (z * (t + 3) + 104729).natAbs < 2 ^ 64 := by
  have a1 : 0 ≤ z * (t + 3) := Int.mul_nonneg h0 (by omega)
  have a2 : z * (t + 3) ≤ 2147483647 * 1000003 := Int.mul_le_mul (by omega) (by omega) (by omega) (by decide)
  omega
theorem ws_l_take : WsC (Fx := XF) S_l_take t_l_take [.no, .no, .no] := by
  rintro K cn as Φ fx ⟨b, x, n, m, rfl, ⟨x0, x1, x2, rfl, h1, h2, h3, h4⟩, hn, hm, hm2, h⟩
  unfold t_l_take
  walk_at "d0"
  walk_at "d"
  refine br_d (fun h7 => ?_) (fun h7 => ?_)
  · walk_at "d"
    exact ⟨⟨rfl, trivial⟩, h _ _ (Int.emod_nonneg _ (by omega)) (Int.emod_lt_of_pos _ hm) ⟨_, _, _, rfl, h1, h2, h3, by omega⟩⟩
  · walk_at "d"
    refine dInt_i ⟨by decide, by decide, box_bound h1 h2 (by omega) (by omega)⟩ ?_
    walk_at "d"
    have g1 := Int.emod_nonneg ((x1 * (2 * (x2 + 1) + 1) + 7919 * (x2 + 1) + 11) ^ 5) (show (2147483647 : Int) ≠ 0 by decide)
    have g2 := Int.emod_lt_of_pos ((x1 * (2 * (x2 + 1) + 1) + 7919 * (x2 + 1) + 11) ^ 5) (show (0 : Int) < 2147483647 by decide)
    generalize (x1 * (2 * (x2 + 1) + 1) + 7919 * (x2 + 1) + 11) ^ 5 % 2147483647 = num at g1 g2 ⊢
    refine dInt_i ⟨by decide, by decide, box_bound2 g1 g2 (by omega) (by omega)⟩ ?_
    walk_at "d"
    exact ⟨⟨rfl, trivial⟩, h _ _ (Int.emod_nonneg _ (by omega)) (Int.emod_lt_of_pos _ hm) ⟨_, _, _, rfl, h1, h2, by omega, by omega⟩⟩
/-- a draw, at a call -/
theorem use_take {P : R → List Sl → Prop} {b : Addr} {x : D} {n : Nat} {m : Int} (hb : BoxD n x) (hn : n < 1000000) (hm : 0 < m) (hm2 : m < 2 ^ 200) (q : ∀ r x', 0 ≤ r → r < m → BoxD (n + 1) x' → P (.d (.int r)) [.own b x', .d (.int m)]) :
    ∀ Ψ : R → List Sl → Prop, (∀ r as', ownOut r → P r as' → Ψ r as') → S_l_take [.own b x, .d (.int m)] Ψ := fun Ψ k => ⟨b, x, n, m, rfl, hb, hn, hm, hm2, fun r x' h1 h2 h3 => k _ _ trivial (q r x' h1 h2 h3)⟩
theorem BoxD.mono {n m : Nat} {x : D} (h : BoxD n x) (e : n ≤ m) : BoxD m x := by
  obtain ⟨x0, x1, x2, h0, h1, h2, h3, h4⟩ := h
  exact ⟨x0, x1, x2, h0, h1, h2, h3, by omega⟩
theorem atI_str {z : Str} {r : Int} {n : Nat} (hn : (tl z).length = n) (h1 : 0 ≤ r) (h2 : r < n) : ∃ ch, atI z.cps.toList r = some ch := by
  obtain ⟨k, rfl⟩ := Int.eq_ofNat_of_zero_le h1
  have hk : k < (tl z).length := by omega
  exact ⟨_, atI_nat (List.getElem?_eq_getElem hk)⟩
theorem signsD_get {z : Str} {i : Nat} {d : D} (h : (signsD z)[i]? = some d) : ∃ ch, d = .str ⟨#[ch]⟩ ∧ (tl z)[i]? = some ch := by
  unfold signsD at h
  rw [List.getElem?_map] at h
  cases e : z.cps.toList[i]? with
  | none => rw [e] at h; cases h
  | some ch => rw [e] at h; cases h; exact ⟨ch, rfl, rfl⟩
def sgn (s : Str) : Nat := s.cps.getD 0 0
def inK (L : List Nat) : D → Option D
  | .str s => some (.bl (decide (sgn s ∈ L)))
  | _ => none
def ifK (L : List Nat) : D → Option D
  | .str s => if sgn s ∈ L then some (.str s) else none
  | _ => none
theorem all_in (z : Str) (L : List Nat) : blsD ((signsD z).filterMap (inK L)) = some ((tl z).map fun ch => decide (ch ∈ L)) := by
  have e : (signsD z).filterMap (inK L) = ((tl z).map fun ch => decide (ch ∈ L)).map D.bl := by
    unfold signsD
    rw [List.filterMap_map, List.map_map]
    show List.filterMap (fun ch => some (D.bl (decide (ch ∈ L)))) (tl z) = _
    generalize tl z = l
    induction l with
    | nil => rfl
    | cons a r ih => simp
  rw [e, blsD_map]
theorem if_len (z : Str) (L : List Nat) : ((signsD z).filterMap (ifK L)).length = ((tl z).filter fun ch => decide (ch ∈ L)).length := by
  unfold signsD
  rw [List.filterMap_map]
  show (List.filterMap (fun ch => if ch ∈ L then some (D.str ⟨#[ch]⟩) else none) (tl z)).length = _
  generalize tl z = l
  induction l with
  | nil => rfl
  | cons a r ih =>
    by_cases h : a ∈ L
    · simp [h, ih]
    · simp [h, ih]
theorem all_map_id (l : List Nat) (L : List Nat) : (l.map fun ch => decide (ch ∈ L)).all id = l.all fun ch => decide (ch ∈ L) := by
  induction l with
  | nil => rfl
  | cons a r ih => simp
def lw (L : List Nat) : List D := L.map fun ch => .str ⟨#[ch]⟩
theorem lw_strs : ∀ L : List Nat, strsD (lw L) = some (L.map fun ch => (⟨#[ch]⟩ : Str))
  | [] => rfl
  | c :: L => by
    show (strsD (lw L)).map _ = _
    rw [lw_strs L]
    rfl
theorem join_ones (L : List Nat) : (Str.join (Str.ofString "") (L.map fun ch => (⟨#[ch]⟩ : Str))).length = L.length := by
  rw [len_tl, tl_join, List.map_map, show tl (Str.ofString "") = [] from by decide +kernel]
  show (joinL [] (L.map fun ch => [ch])).length = _
  have e : ∀ L : List Nat, joinL [] (L.map fun ch => [ch]) = L := by
    intro L
    induction L with
    | nil => rfl
    | cons c L ih =>
      cases L with
      | nil => rfl
      | cons d L =>
        show [c] ++ [] ++ joinL [] ((d :: L).map fun ch => [ch]) = _
        rw [ih]
        rfl
  rw [e]
theorem sum_ones (L : List Nat) : ((L.map fun ch => (⟨#[ch]⟩ : Str)).map (·.length)).sum = L.length := by
  induction L with
  | nil => rfl
  | cons c L ih =>
    simp only [List.map_cons, List.sum_cons, ih, List.length_cons]
    show 1 + L.length = _
    omega
theorem len_app (x y : Str) : (x ++ y).length = x.length + y.length := by
  rw [len_tl, tl_append, List.length_append, ← len_tl, ← len_tl]
theorem lw_snoc (L : List Nat) (ch : Nat) : lw L ++ [.str ⟨#[ch]⟩] = lw (L ++ [ch]) := by
  unfold lw
  rw [List.map_append]
  rfl
section
variable {P : R → List Sl → Prop}
theorem use_box {v : Int} (q : ∀ b x, BoxD 0 x → P (.own b x) [.d (.int v)]) :
    ∀ Ψ : R → List Sl → Prop, (∀ r as', ownOut r → P r as' → Ψ r as') → S_l_box [.d (.int v)] Ψ := fun Ψ k => ⟨v, rfl, fun b x h => k _ _ trivial (q b x h)⟩
theorem use_cell {ns : List Int} {i : Nat} (hl : ns.length ≤ 63) (q : ∀ v : Int, P (.d (.int v)) [.d (.ro (ns.map .int)), .d (.int i)]) :
    ∀ Ψ : R → List Sl → Prop, (∀ r as', ownOut r → P r as' → Ψ r as') → S_l_cell [.d (.ro (ns.map .int)), .d (.int i)] Ψ := fun Ψ k => ⟨ns, i, rfl, hl, fun v => k _ _ trivial (q v)⟩
end

theorem ws_is_whole : WsC (Fx := XF) S_is_whole t_is_whole [] := by
  rintro K cn as Φ fx ⟨x, lo, hi, rfl, ht, h⟩
  unfold t_is_whole
  walk_at "d0"
  walk_at "d"
  refine br_not (br (fun h1 => ?_) (fun h1 => ?_))
  · walk_at "d"
    refine br (fun h2 => ?_) (fun h2 => ?_)
    · walk_at "d"
      cases x <;> first | (cases h2; done) | exact ⟨trivial, h⟩
    · cases x <;> first | (cases h1; done) | (cases h2; done) | skip
      rename_i i
      walk_at "d"
      refine br_d (fun h3 => ?_) (fun h3 => ?_)
      · walk_at "d"
        have e : decide (i ≤ hi) = wholeB (.int i) lo hi := by simp [wholeB, h3]
        rw [e]
        exact ⟨trivial, h⟩
      · have e : false = wholeB (.int i) lo hi := by simp [wholeB, h3]
        rw [e]
        exact ⟨trivial, h⟩
  · walk_at "d"
    cases x <;> first | (cases h1; done) | exact ⟨trivial, h⟩

theorem kk_le {n b : Nat} (hb : 1 ≤ b) (j : Nat) : n < 2 ^ (j + b) ↔ kk n b ≤ j := by
  unfold kk
  rcases Nat.eq_zero_or_pos n with q | q
  · subst q
    have : 0 < 2 ^ (j + b) := Nat.two_pow_pos _
    rw [show Nat.log2 0 = 0 from by decide +kernel]
    omega
  · have := Nat.log2_lt (n := n) (k := j + b) (by omega)
    omega
theorem kk_lt {n b : Nat} (hb : 1 ≤ b) (h : 0 < kk n b) : 2 ^ (kk n b - 1 + b) ≤ n := by
  have := (not_congr (kk_le (n := n) hb (kk n b - 1))).mpr (by omega)
  omega
/-- the least multiple of u that is not below n -/
theorem ceil_ge {n u : Nat} (hu : 0 < u) : n ≤ (n + u - 1) / u * u := by
  have h1 := Nat.div_add_mod (n + u - 1) u
  have h2 := Nat.mod_lt (n + u - 1) hu
  have h3 : u * ((n + u - 1) / u) = (n + u - 1) / u * u := Nat.mul_comm _ _
  omega
theorem ceil_lt {n u : Nat} (hu : 0 < u) : (n + u - 1) / u * u < n + u := by
  have h1 := Nat.div_mul_le_self (n + u - 1) u
  omega
theorem ceil_le {n u m : Nat} (hu : 0 < u) (h : n ≤ m) (hd : u ∣ m) : (n + u - 1) / u * u ≤ m := by
  obtain ⟨q, rfl⟩ := hd
  have h1 : (n + u - 1) / u < q + 1 := by
    rw [Nat.div_lt_iff_lt_mul hu]
    have : (q + 1) * u = u * q + u := by rw [Nat.add_mul, Nat.one_mul, Nat.mul_comm]
    omega
  rw [Nat.mul_comm u q]
  exact Nat.mul_le_mul_right _ (by omega)
theorem ceil_self {u m : Nat} (hu : 0 < u) (hd : u ∣ m) : (m + u - 1) / u * u = m := Nat.le_antisymm (ceil_le hu (Nat.le_refl _) hd) (ceil_ge hu)
theorem rd_ge (n b : Nat) : n ≤ rd n b := ceil_ge (Nat.two_pow_pos _)
theorem rd_lt (n b : Nat) : rd n b < n + 2 ^ kk n b := ceil_lt (Nat.two_pow_pos _)
theorem rd_dvd (n b : Nat) : 2 ^ kk n b ∣ rd n b := ⟨_, Nat.mul_comm _ _⟩
theorem rd_near {n b : Nat} (hb : 1 ≤ b) : (rd n b - n) * 2 ^ (b - 1) ≤ n := by
  have h1 := rd_lt n b
  rcases Nat.eq_zero_or_pos (kk n b) with q | q
  · rw [q] at h1
    have : rd n b - n = 0 := by have : 2 ^ 0 = 1 := rfl
                                omega
    rw [this, Nat.zero_mul]
    omega
  · have h2 := kk_lt hb q
    have h3 : rd n b - n ≤ 2 ^ kk n b := by
      generalize 2 ^ kk n b = w at h1 ⊢
      omega
    refine Nat.le_trans (Nat.mul_le_mul_right _ h3) ?_
    rw [← Nat.pow_add, show kk n b + (b - 1) = kk n b - 1 + b by omega]
    exact h2
theorem rd_top {n b : Nat} (hb : 1 ≤ b) : rd n b ≤ 2 ^ (kk n b + b) := by
  refine ceil_le (Nat.two_pow_pos _) ?_ (Nat.pow_dvd_pow 2 (by omega))
  exact Nat.le_of_lt ((kk_le hb (kk n b)).mpr (Nat.le_refl _))
theorem rd_rd {n b : Nat} (hb : 1 ≤ b) : rd (rd n b) b = rd n b := by
  refine ceil_self (Nat.two_pow_pos _) ?_
  rcases Nat.lt_or_eq_of_le (rd_top (n := n) hb) with q | q
  · have h1 := (kk_le hb (kk n b)).mp q
    exact Nat.dvd_trans (Nat.pow_dvd_pow 2 h1) (rd_dvd n b)
  · have h1 : kk (rd n b) b ≤ kk n b + 1 := (kk_le hb _).mp (by rw [q]; exact Nat.pow_lt_pow_right (by decide) (by omega))
    rw [q] at h1 ⊢
    exact Nat.pow_dvd_pow 2 (by omega)
theorem rd_more {n b : Nat} (hb : 1 ≤ b) : rd n (b + 1) ≤ rd n b := by
  refine ceil_le (Nat.two_pow_pos _) (rd_ge n b) (Nat.dvd_trans (Nat.pow_dvd_pow 2 ?_) (rd_dvd n b))
  unfold kk
  omega
theorem kk_43 {n b : Nat} (h : n ≤ 10000000000000) (hb : 1 ≤ b) : kk n b ≤ 44 := (kk_le hb 44).mp (Nat.lt_of_le_of_lt h (Nat.lt_of_lt_of_le (show 10000000000000 < 2 ^ 45 by decide) (Nat.pow_le_pow_right (by decide) (by omega))))
theorem shr_ge {n j b : Nat} : ((2 : Int) ^ b ≤ (n : Int) / 2 ^ j) ↔ ¬ n < 2 ^ (j + b) := by
  have e : (n : Int) / 2 ^ j = ((n / 2 ^ j : Nat) : Int) := by
    rw [Int.natCast_ediv]; rfl
  have e2 : (2 : Int) ^ b = ((2 ^ b : Nat) : Int) := by rfl
  rw [e, e2]
  have h1 := Nat.le_div_iff_mul_le (x := 2 ^ b) (y := n) (Nat.two_pow_pos j)
  rw [← Nat.pow_add] at h1
  rw [Nat.add_comm j b]
  omega
theorem use_is_whole {P : R → List Sl → Prop} {x : D} {lo hi : Int} (h : (tyD x).isSome = true) (q : P (.d (.bl (wholeB x lo hi))) [.d x, .d (.int lo), .d (.int hi)]) :
    ∀ Ψ : R → List Sl → Prop, (∀ r as', ownOut r → P r as' → Ψ r as') → S_is_whole [.d x, .d (.int lo), .d (.int hi)] Ψ := fun Ψ k => ⟨x, lo, hi, rfl, h, k _ _ trivial q⟩
theorem ws_need_bits : WsXC (Fx := XF) S_need_bits t_need_bits [] := by
  rintro K cn Wx as Φ Y fx ⟨x, rfl, ht, h1, h2⟩
  unfold t_need_bits
  walk_at "d0"
  walk_at "d"
  refine use_is_whole ht ?_
  walk_at "d"
  refine br_not (br (fun q => ?_) (fun q => ?_))
  · walk_at "d"
    exact ⟨trivial, h1 q⟩
  · refine w_raiseN fx.all1 fx.fl1 ?_
    walk_at "d"
    exact ⟨x, rfl, h2 q⟩
theorem ws_raised_to : WsC (Fx := XF) S_raised_to t_raised_to [.no] := by
  rintro K cn as Φ fx ⟨n, b, rfl, hn, hb1, hb2, h⟩
  have h44 := kk_43 hn hb1
  unfold t_raised_to
  walk_at "d0"
  walk_at "d"
  refine w_whileP (fun δ2 => δ2 = [.d (.int (n : Int)), .d (.int (b : Int)), .d (.int (kk n b : Nat))]) (fun m δ' => ∃ j : Nat, δ' = [.d (.int (n : Int)), .d (.int (b : Int)), .d (.int (j : Int))] ∧ j ≤ kk n b ∧ m = kk n b - j) (kk n b) ⟨0, rfl, by omega, by omega⟩ (fun m δ' ⟨j, e, hj, em⟩ => ?_) (fun δ' e => ?_)
  · subst e
    walk_at "d"
    rw [Int.one_mul, Int.toNat_natCast, Int.toNat_natCast]
    refine br_d (fun q => ?_) (fun q => ?_)
    · have q1 := (not_congr (kk_le (n := n) hb1 j)).mp (shr_ge.mp q)
      walk_at "d"
      exact ⟨m - 1, by omega, j + 1, rfl, by omega, by omega⟩
    · have q1 := (kk_le (n := n) hb1 j).mp (Classical.not_not.mp ((not_congr shr_ge).mp q))
      have e : j = kk n b := by omega
      subst e
      rfl
  · subst e
    walk_at "d"
    rw [Int.one_mul, Int.toNat_natCast]
    have hp : (2 : Nat) ^ kk n b ≤ 2 ^ 44 := Nat.pow_le_pow_right (by decide) h44
    have hp1 : 1 ≤ (2 : Nat) ^ kk n b := Nat.one_le_two_pow
    have e1 : ((n : Int) + 2 ^ kk n b - 1) / 2 ^ kk n b = (((n + 2 ^ kk n b - 1) / 2 ^ kk n b : Nat) : Int) := by
      rw [Int.natCast_ediv, Int.natCast_sub (by omega), Int.natCast_add]
      rfl
    rw [e1]
    refine dInt_i ⟨by omega, by omega, by rw [Int.natAbs_natCast]; exact Nat.lt_of_le_of_lt (Nat.div_le_self _ _) (by omega)⟩ ?_
    rw [Int.toNat_natCast]
    have e2 : (((n + 2 ^ kk n b - 1) / 2 ^ kk n b : Nat) : Int) * 2 ^ kk n b = ((rd n b : Nat) : Int) := by
      unfold rd
      rw [Int.natCast_mul]
      rfl
    rw [e2]
    exact ⟨trivial, h⟩

section
variable {P : R → List Sl → Prop} {n b : Nat}
theorem use_raised_to (h1 : n ≤ 10000000000000) (h2 : 1 ≤ b) (h3 : b ≤ 40) (q : P (.d (.int (rd n b : Nat))) [.d (.int n), .d (.int b)]) :
    ∀ Ψ : R → List Sl → Prop, (∀ r as', ownOut r → P r as' → Ψ r as') → S_raised_to [.d (.int n), .d (.int b)] Ψ := fun Ψ k => ⟨n, b, rfl, h1, h2, h3, k _ _ trivial q⟩
theorem use_due (h1 : n ≤ 10000000000000) (h2 : 1 ≤ b) (h3 : b ≤ 40) (q : P (.d (.int (rd n b : Nat))) [.d (.int n), .d (.int b)]) :
    ∀ Ψ : R → List Sl → Prop, (∀ r as', ownOut r → P r as' → Ψ r as') → S_l_due [.d (.int n), .d (.int b)] Ψ := fun Ψ k => ⟨n, b, rfl, h1, h2, h3, k _ _ trivial q⟩
theorem use_right (h1 : n ≤ 10000000000000) (h2 : 1 ≤ b) (h3 : b ≤ 40) (q : P (.d (.bl true)) [.d (.int n), .d (.int b)]) :
    ∀ Ψ : R → List Sl → Prop, (∀ r as', ownOut r → P r as' → Ψ r as') → S_l_right [.d (.int n), .d (.int b)] Ψ := fun Ψ k => ⟨n, b, rfl, h1, h2, h3, k _ _ trivial q⟩
theorem use_refused {x y : D} (h1 : (tyD x).isSome = true) (h2 : (tyD y).isSome = true) (h3 : wholeB x 0 10000000000000 = false ∨ wholeB y 1 40 = false) (q : P (.d (refD x y)) [.d x, .d y]) :
    ∀ Ψ : R → List Sl → Prop, (∀ r as', ownOut r → P r as' → Ψ r as') → S_l_refused [.d x, .d y] Ψ := fun Ψ k => ⟨x, y, rfl, h1, h2, h3, k _ _ trivial q⟩
theorem use_number {a : Addr} {x : D} {m : Nat} (hb : BoxD m x) (hn : m + 3 < 1000000) (q : ∀ (v : Nat) x', v ≤ 10000000000000 → BoxD (m + 3) x' → P (.d (.int v)) [.own a x']) :
    ∀ Ψ : R → List Sl → Prop, (∀ r as', ownOut r → P r as' → Ψ r as') → S_l_number [.own a x] Ψ := fun Ψ k => ⟨a, x, m, rfl, hb, hn, fun v x' h1 h2 => k _ _ trivial (q v x' h1 h2)⟩
theorem use_bits {a : Addr} {x : D} {m : Nat} (hb : BoxD m x) (hn : m + 3 < 1000000) (q : ∀ (v : Nat) x', 1 ≤ v → v ≤ 40 → BoxD (m + 3) x' → P (.d (.int v)) [.own a x']) :
    ∀ Ψ : R → List Sl → Prop, (∀ r as', ownOut r → P r as' → Ψ r as') → S_l_bits [.own a x] Ψ := fun Ψ k => ⟨a, x, m, rfl, hb, hn, fun v x' h1 h2 h3 => k _ _ trivial (q v x' h1 h2 h3)⟩
end
theorem wh_is {x : D} {lo hi : Int} (h : wholeB x lo hi = true) : ∃ i, x = .int i ∧ lo ≤ i ∧ i ≤ hi := by
  cases x <;> first | (cases h; done) | skip
  rename_i i
  have q : (decide (lo ≤ i) && decide (i ≤ hi)) = true := h
  rw [Bool.and_eq_true, decide_eq_true_eq, decide_eq_true_eq] at q
  exact ⟨i, rfl, q⟩
theorem wh_ok {i lo hi : Int} (h1 : lo ≤ i) (h2 : i ≤ hi) : wholeB (.int i) lo hi = true := by
  show (decide (lo ≤ i) && decide (i ≤ hi)) = true
  rw [decide_eq_true h1, decide_eq_true h2]
  rfl
theorem ws_rounded : WsXC (Fx := XF) S_rounded t_rounded [] := by
  rintro K cn Wx as Φ Y fx ⟨x, y, rfl, hx, hy, h0, h1, h2⟩
  unfold t_rounded
  walk_at "d0"
  walk_at "d"
  refine use_is_whole hx ?_
  walk_at "d"
  refine br_not (br (fun q => ?_) (fun q => ?_))
  · obtain ⟨i, rfl, a1, a2⟩ := wh_is q
    obtain ⟨n, rfl⟩ := Int.eq_ofNat_of_zero_le a1
    walk_at "d"
    refine we_callX ?_
    walk_at "d"
    refine ⟨[y], rfl, fun P Y' k1 k2 => ⟨y, rfl, hy, fun hw => k1 _ _ trivial ?_, fun hw => k2 1 y (h1 q hw)⟩⟩
    obtain ⟨j, rfl, b1, b2⟩ := wh_is hw
    obtain ⟨b, rfl⟩ := Int.eq_ofNat_of_zero_le (show 0 ≤ j by omega)
    walk_at "d"
    refine use_raised_to (by omega) (by omega) (by omega) ?_
    walk_at "d"
    exact ⟨trivial, h2 n b rfl rfl (by omega) (by omega) (by omega)⟩
  · refine w_raiseN fx.all0 fx.fl0 ?_
    walk_at "d"
    exact ⟨x, rfl, h0 q⟩
theorem use_rounded {n b : Nat} {P : R → List Sl → Prop} {Y : Nat → D → Prop} (h1 : n ≤ 10000000000000) (h2 : 1 ≤ b) (h3 : b ≤ 40) (q : P (.d (.int (rd n b : Nat))) [.d (.int n), .d (.int b)]) : S_rounded [.d (.int n), .d (.int b)] P Y :=
  ⟨.int n, .int b, rfl, rfl, rfl, (fun z => by rw [wh_ok (by omega) (by omega)] at z; cases z), (fun _ z => by rw [wh_ok (by omega) (by omega)] at z; cases z), fun n' b' e1 e2 _ _ _ => by cases e1; cases e2; exact q⟩
theorem two_pow (j : Nat) : (2 : Int) * ((2 ^ j : Nat) : Int) = ((2 ^ (j + 1) : Nat) : Int) := by
  rw [Nat.pow_succ, Int.natCast_mul, Int.mul_comm]
  rfl
theorem ws_l_due : WsC (Fx := XF) S_l_due t_l_due [.no] := by
  rintro K cn as Φ fx ⟨n, b, rfl, hn, hb1, hb2, h⟩
  have h44 := kk_43 hn hb1
  have hB : (2 : Nat) ^ b ≤ 2 ^ 40 := Nat.pow_le_pow_right (by decide) hb2
  unfold t_l_due
  walk_at "d0"
  walk_at "d"
  refine w_whileP (fun δ2 => δ2 = [.d (.int (n : Int)), .d (.int (b : Int)), .d (.int ((2 ^ kk n b : Nat) : Int))]) (fun m δ' => ∃ j : Nat, δ' = [.d (.int (n : Int)), .d (.int (b : Int)), .d (.int ((2 ^ j : Nat) : Int))] ∧ j ≤ kk n b ∧ m = kk n b - j) (kk n b) ⟨0, rfl, by omega, by omega⟩ (fun m δ' ⟨j, e, hj, em⟩ => ?_) (fun δ' e => ?_)
  · subst e
    have hp : (2 : Nat) ^ j ≤ 2 ^ 44 := Nat.pow_le_pow_right (by decide) (by omega)
    walk_at "d"
    rw [Int.one_mul, Int.toNat_natCast]
    have e1 : ((2 ^ j : Nat) : Int) * 2 ^ b = ((2 ^ (j + b) : Nat) : Int) := by
      rw [Nat.pow_add, Int.natCast_mul]
      rfl
    have hB' : ((2 : Int) ^ b).natAbs ≤ 2 ^ 40 := by
      rw [show (2 : Int) ^ b = ((2 ^ b : Nat) : Int) from rfl, Int.natAbs_natCast]
      exact hB
    refine dMul_i (.inl (.inl ?_)) ?_
    · clear e1
      generalize (2 : Nat) ^ j = w at hp ⊢
      omega
    rw [e1]
    walk_at "d"
    refine br_d (fun q => ?_) (fun q => ?_)
    · have q1 := (not_congr (kk_le (n := n) hb1 j)).mp (by omega)
      walk_at "d"
      rw [two_pow]
      exact ⟨m - 1, by omega, j + 1, rfl, by omega, by omega⟩
    · have q1 := (kk_le (n := n) hb1 j).mp (by omega)
      have e : j = kk n b := by omega
      subst e
      rfl
  · subst e
    have hp : (2 : Nat) ^ kk n b ≤ 2 ^ 44 := Nat.pow_le_pow_right (by decide) h44
    have hp1 : 1 ≤ (2 : Nat) ^ kk n b := Nat.one_le_two_pow
    walk_at "d"
    have e1 : ((n : Int) + ((2 ^ kk n b : Nat) : Int) - 1) / ((2 ^ kk n b : Nat) : Int) = (((n + 2 ^ kk n b - 1) / 2 ^ kk n b : Nat) : Int) := by
      rw [Int.natCast_ediv, Int.natCast_sub (by omega), Int.natCast_add]
      rfl
    have e2 : (((n + 2 ^ kk n b - 1) / 2 ^ kk n b : Nat) : Int) * ((2 ^ kk n b : Nat) : Int) = ((rd n b : Nat) : Int) := by
      unfold rd
      rw [Int.natCast_mul]
    have hd : (n + 2 ^ kk n b - 1) / 2 ^ kk n b ≤ n + 2 ^ kk n b - 1 := Nat.div_le_self _ _
    rw [e1, e2]
    exact ⟨trivial, h⟩
theorem ws_l_number : WsC (Fx := XF) S_l_number t_l_number [.no] := by
  rintro K cn as Φ fx ⟨b, x, n, rfl, hb, hn, h⟩
  unfold t_l_number
  walk_at "d0"
  walk_at "d"
  refine use_take hb (by omega) (by omega) (by omega) fun r1 x1 g1 g2 hb1 => ?_
  walk_at "d"
  refine br_d (fun q => ?_) (fun q => ?_)
  · walk_at "d"
    refine use_take hb1 (by omega) (by omega) (by omega) fun r2 x2 g3 g4 hb2 => ?_
    obtain ⟨v, rfl⟩ := Int.eq_ofNat_of_zero_le g3
    exact ⟨⟨rfl, trivial⟩, h v _ (by omega) (hb2.mono (by omega))⟩
  walk_at "x"
  walk_at "d"
  refine br_d (fun q => ?_) (fun q => ?_)
  · walk_at "d"
    refine use_take hb1 (by omega) (by omega) (by omega) fun r2 x2 g3 g4 hb2 => ?_
    walk_at "d"
    have hv : ∃ v : Nat, (10000000000000 - r2 : Int) = v ∧ v ≤ 10000000000000 := ⟨(10000000000000 - r2 : Int).toNat, by omega, by omega⟩
    obtain ⟨v, e, hv⟩ := hv
    rw [e]
    exact ⟨⟨rfl, trivial⟩, h v _ hv (hb2.mono (by omega))⟩
  walk_at "x"
  walk_at "d"
  refine br_d (fun q => ?_) (fun q => ?_)
  · walk_at "d"
    refine use_take hb1 (by omega) (by omega) (by omega) fun r2 x2 g3 g4 hb2 => ?_
    walk_at "d"
    refine use_take hb2 (by omega) (by omega) (by omega) fun r3 x3 g5 g6 hb3 => ?_
    walk_at "d"
    have hv : ∃ v : Nat, (1 * 2 ^ r2.toNat + r3 - 1 : Int) = v ∧ v ≤ 10000000000000 := by
      have p1 : (2 : Nat) ^ r2.toNat ≤ 2 ^ 42 := Nat.pow_le_pow_right (by decide) (by omega)
      have p2 : 1 ≤ (2 : Nat) ^ r2.toNat := Nat.one_le_two_pow
      have p3 : (2 : Int) ^ r2.toNat = ((2 ^ r2.toNat : Nat) : Int) := rfl
      rw [p3]
      generalize (2 : Nat) ^ r2.toNat = w at p1 p2 ⊢
      exact ⟨(1 * (w : Int) + r3 - 1).toNat, by omega, by omega⟩
    obtain ⟨v, e, hv⟩ := hv
    rw [e]
    exact ⟨⟨rfl, trivial⟩, h v _ hv (hb3.mono (by omega))⟩
  walk_at "x"
  walk_at "d"
  refine br_d (fun q => ?_) (fun q => ?_)
  · walk_at "d"
    refine use_take hb1 (by omega) (by omega) (by omega) fun r2 x2 g3 g4 hb2 => ?_
    obtain ⟨v, rfl⟩ := Int.eq_ofNat_of_zero_le g3
    exact ⟨⟨rfl, trivial⟩, h v _ (by omega) (hb2.mono (by omega))⟩
  walk_at "x"
  walk_at "d"
  refine use_take hb1 (by omega) (by omega) (by omega) fun r2 x2 g3 g4 hb2 => ?_
  walk_at "d"
  refine use_take hb2 (by omega) (by omega) (by omega) fun r3 x3 g5 g6 hb3 => ?_
  walk_at "d"
  have hv : ∃ v : Nat, (r2 * 1000000 + r3 : Int) = v ∧ v ≤ 10000000000000 := ⟨(r2 * 1000000 + r3 : Int).toNat, by omega, by omega⟩
  obtain ⟨v, e, hv⟩ := hv
  rw [e]
  exact ⟨⟨rfl, trivial⟩, h v _ hv (hb3.mono (by omega))⟩
theorem ws_l_bits : WsC (Fx := XF) S_l_bits t_l_bits [] := by
  rintro K cn as Φ fx ⟨b, x, n, rfl, hb, hn, h⟩
  unfold t_l_bits
  walk_at "d0"
  walk_at "d"
  refine use_take hb (by omega) (by omega) (by omega) fun r1 x1 g1 g2 hb1 => ?_
  walk_at "d"
  refine use_take hb1 (by omega) (by omega) (by omega) fun r2 x2 g3 g4 hb2 => ?_
  walk_at "d"
  refine use_take hb2 (by omega) (by omega) (by omega) fun r3 x3 g5 g6 hb3 => ?_
  walk_at "d"
  have hv : ∃ v : Nat, atI [D.int 1, .int 2, .int (1 + r1), .int (1 + r2)] r3 = some (.int v) ∧ 1 ≤ v ∧ v ≤ 40 := by
    have e : r3 = 0 ∨ r3 = 1 ∨ r3 = 2 ∨ r3 = 3 := by omega
    rcases e with rfl | rfl | rfl | rfl
    · exact ⟨1, rfl, by omega, by omega⟩
    · exact ⟨2, rfl, by omega, by omega⟩
    · exact ⟨(1 + r1).toNat, by rw [Int.toNat_of_nonneg (by omega)]; rfl, by omega, by omega⟩
    · exact ⟨(1 + r2).toNat, by rw [Int.toNat_of_nonneg (by omega)]; rfl, by omega, by omega⟩
  obtain ⟨v, hat, h1, h2⟩ := hv
  refine dIx_l hat ?_
  exact ⟨⟨rfl, trivial⟩, h v _ h1 h2 hb3⟩

theorem ws_l_refused : WsC (Fx := XF) S_l_refused t_l_refused [.no, .no] := by
  rintro K cn as Φ fx ⟨x, y, rfl, hx, hy, hw, h⟩
  have T0 : ExcAll K (cn.ad 0) "found" := by have z := fx.all0; rw [fx.fl0] at z; exact z
  have T1 : ExcAll K (cn.ad 1) "found" := by have z := fx.all1; rw [fx.fl1] at z; exact z
  unfold t_l_refused
  walk_at "d0"
  walk_at "d"
  refine w_join (fun δ2 => ∃ a s, δ2 = [.d x, .d y, .own a (.lst [refD x y]), s]) ?_ (fun δ2 ⟨a, s, e⟩ => ?_)
  · refine w_try (cn := cn) (fun nm t δ' => (∃ a, δ' = [.d x, .d y, .own a (.lst []), .no]) ∧ ((nm = 0 ∧ refD x y = .lst [.str "number", t]) ∨ (nm = 1 ∧ refD x y = .lst [.str "bits", t]))) (fun Wx => ?_) (fun nm t δ' ⟨⟨a, e⟩, q⟩ => ?_)
    · walk_at "d"
      refine we_callX ?_
      walk_at "d"
      refine ⟨[x, y], rfl, fun P Y' k1 k2 => ⟨x, y, rfl, hx, hy, fun q => k2 0 x ⟨⟨_, rfl⟩, .inl ⟨rfl, if_pos q⟩⟩, fun q q2 => k2 1 y ⟨⟨_, rfl⟩, .inr ⟨rfl, if_neg (by rw [q]; simp)⟩⟩, fun n b e1 e2 h1 h2 h3 => ?_⟩⟩
      subst e1 e2
      rw [wh_ok (by omega) (by omega), wh_ok (by omega) (by omega)] at hw
      rcases hw with hw | hw <;> cases hw
    · subst e
      rcases q with ⟨rfl, q⟩ | ⟨rfl, q⟩
      · refine ⟨fx.ex0, fun a d v => ?_⟩
        rw [fx.fl0]
        walk_at "d"
        refine we_isGp T0 fx.kit0_0 ?_
        walk_at "d"
        refine ⟨rfl, ?_⟩
        walk_at "d"
        refine we_xfX T0 ?_
        walk_at "d"
        refine ⟨rfl, ?_⟩
        walk_at "d"
        refine we_isGp T0 fx.kit0_1 ?_
        walk_at "d"
        refine ⟨rfl, ?_⟩
        walk_at "d"
        rw [q]
        exact ⟨_, _, rfl⟩
      · refine ⟨fx.ex1, fun a d v => ?_⟩
        rw [fx.fl1]
        walk_at "d"
        refine we_isGp T1 fx.kit1_0 ?_
        walk_at "d"
        refine ⟨rfl, ?_⟩
        walk_at "d"
        refine we_isGp T1 fx.kit1_1 ?_
        walk_at "d"
        refine ⟨rfl, ?_⟩
        walk_at "d"
        refine we_xfX T1 ?_
        walk_at "d"
        refine ⟨rfl, ?_⟩
        walk_at "d"
        rw [q]
        exact ⟨_, _, rfl⟩
  · subst e
    walk_at "d"
    refine br_t ?_
    walk_at "d"
    exact ⟨trivial, h⟩
theorem rd_small {n b : Nat} (h : n ≤ 10000000000000) (hb : 1 ≤ b) : rd n b < 10000000000000 + 2 ^ 44 := by
  have h1 := rd_lt n b
  have h2 : (2 : Nat) ^ kk n b ≤ 2 ^ 44 := Nat.pow_le_pow_right (by decide) (kk_43 h hb)
  generalize (2 : Nat) ^ kk n b = w at h1 h2
  omega
theorem ws_l_right : WsC (Fx := XF) S_l_right t_l_right [.no, .no] := by
  rintro K cn as Φ fx ⟨n, b, rfl, hn, hb1, hb2, h⟩
  have hs := rd_small hn hb1
  have hg := rd_ge n b
  have hnear := rd_near (n := n) hb1
  have hrr := rd_rd (n := n) hb1
  have hmore := rd_more (n := n) hb1
  unfold t_l_right
  walk_at "d0"
  walk_at "d"
  refine use_due hn hb1 hb2 ?_
  walk_at "d"
  refine we_callX0 (p := false) ?_
  walk_at "d"
  refine ⟨[.int n, .int b], rfl, fun P Y k1 => use_rounded hn hb1 hb2 (k1 _ _ trivial ?_)⟩
  generalize hr : rd n b = r at *
  walk_at "d"
  refine br_f ?_
  walk_at "d"
  refine br_f ?_
  walk_at "d"
  refine br_n (fun q => absurd rfl q) (fun _ => ?_)
  walk_at "x"
  walk_at "d"
  have en : ((r : Int) - (n : Int)) * (1 * 2 ^ ((b : Int) - 1).toNat) = (((r - n) * 2 ^ (b - 1) : Nat) : Int) := by
    rw [Int.one_mul, show ((b : Int) - 1).toNat = b - 1 by omega, Int.natCast_mul, Int.natCast_sub hg]
    rfl
  rw [en]
  refine br_d (fun q => ?_) (fun _ => ?_)
  · exact absurd q (by omega)
  walk_at "x"
  walk_at "d1"
  refine w_join (fun δ2 => δ2 = [.d (.int (n : Int)), .d (.int (b : Int)), .d (.int (r : Int)), .d (.int (r : Int))]) ?_ (fun δ2 e => ?_)
  · walk_at "d"
    refine br_d (fun q => ?_) (fun q => ?_)
    · walk_at "d"
      refine we_callX0 (p := false) ?_
      walk_at "d"
      refine ⟨[.int r, .int b], rfl, fun P Y k1 => use_rounded (by omega) hb1 hb2 (k1 _ _ trivial ?_)⟩
      rw [hrr]
      walk_at "d"
      refine br_n (fun q => absurd rfl q) (fun _ => ?_)
      walk_at "x"
      rfl
    · walk_at "x"
      rfl
  · subst e
    walk_at "d"
    refine br_d (fun q => ?_) (fun q => ?_)
    · walk_at "d"
      exact ⟨trivial, h⟩
    · walk_at "d"
      refine we_callX0 (p := false) ?_
      walk_at "d"
      refine ⟨[.int n, .int (b + 1 : Nat)], rfl, fun P Y k1 => use_rounded hn (by omega) (by omega) (k1 _ _ trivial ?_)⟩
      walk_at "d"
      rw [decide_eq_true (by omega)]
      exact ⟨trivial, h⟩

/-- what can be shown and held to be equal -/
def gR (x : D) : Prop := (tyD x).isSome = true ∧ rOk x ∧ wt x ≤ 30000 ∧ dpt x ≤ 3 ∧ ∃ d, pyA x = some d ∧ d0 d = true ∧ d.depth ≤ 3
theorem gR_int {i : Int} (h : i.natAbs < 2 ^ 200) : gR (.int i) := by
  refine ⟨rfl, ?_, by simp [wt], by simp [dpt], _, by unfold pyA; rfl, by simp [d0], by simp [PyData.depth]⟩
  unfold rOk
  rcases Nat.eq_zero_or_pos i.natAbs with q | q
  · rw [q]; decide
  · have := (Nat.log2_lt (by omega)).mpr h
    omega
theorem gR_non : gR .non := ⟨rfl, by unfold rOk; trivial, by simp [wt], by simp [dpt], _, by unfold pyA; rfl, by simp [d0], by simp [PyData.depth]⟩
theorem gR_bl (b : Bool) : gR (.bl b) := ⟨rfl, by unfold rOk; trivial, by simp [wt], by simp [dpt], _, by unfold pyA; rfl, by simp [d0], by simp [PyData.depth]⟩
theorem gR_dct : gR (.dct []) := ⟨rfl, by unfold rOk rOkk; trivial, by simp [wt, wtk], by simp [dpt, dptk], _, by unfold pyA pyAk; rfl, by simp [d0], by simp [PyData.depth, PyData.depthKv]⟩
theorem gR_tup0 : gR (.tup []) := ⟨rfl, by unfold rOk rOks; trivial, by simp [wt, wts], by simp [dpt, dpts], _, by unfold pyA pyAs; rfl, by simp [d0, d0s], by simp [PyData.depth, PyData.depthAll]⟩
theorem gR_lst1 : gR (.lst [.int 1]) := ⟨rfl, by unfold rOk rOks rOk rOks; exact ⟨by decide, trivial⟩, by simp [wt, wts], by simp [dpt, dpts], _, by unfold pyA pyAs pyA pyAs; rfl, by simp [d0, d0s], by simp [PyData.depth, PyData.depthAll]⟩
theorem gR_str {z : Str} (h : ∀ ch ∈ tl z, ch < 4294967296) (hl : z.length ≤ 2000) : gR (.str z) := ⟨rfl, (by unfold rOk; exact h), (by simp only [wt]; omega), (by simp [dpt]), _, by unfold pyA; rfl, by simp [d0], by simp [PyData.depth]⟩
theorem str_lt (s : String) (h : ((Str.ofString s).cps.toList.all fun ch => decide (ch < 4294967296)) = true) : ∀ ch ∈ tl (Str.ofString s), ch < 4294967296 := fun ch hc => by
  have := List.all_eq_true.mp h ch hc
  simpa using this
theorem same2 {s : Str} {x : D} (h : gR x) : sameD (.lst [.str s, x]) (.lst [.str s, x]) := by
  obtain ⟨_, _, _, _, d, hd, h0, hp⟩ := h
  refine ⟨[.str s, x], .list [.str s, d], rfl, rfl, ?_, by simp [d0, d0s, h0], ?_⟩
  · unfold pyA pyAs pyA pyAs
    rw [hd]
    unfold pyAs
    rfl
  · simp only [PyData.depth, PyData.depthAll]
    omega
theorem rp2 {s : Str} {x : D} (hs : ∀ ch ∈ tl s, ch < 4294967296) (hl : s.length ≤ 100) (h : gR x) : rpOk (.lst [.str s, x]) := by
  refine ⟨?_, ?_, ?_⟩
  · unfold rOk rOks rOks rOks
    exact ⟨by unfold rOk; exact hs, h.2.1, trivial⟩
  · have := h.2.2.1
    simp only [wt, wts]
    omega
  · have := h.2.2.2.1
    simp only [dpt, dpts]
    omega
theorem odd_at {r : Int} (a : 0 ≤ r) (b : r < 10) :
    ∃ x, atI [D.int (-1), .int (10000000000000 + 1), .bl true, .non, .str (Str.ofString "5"), .lst [.int 1], .tup [], .dct [], .int 100000000000000000000000000000, .bl false] r = some x ∧ wholeB x 0 10000000000000 = false ∧ gR x := by
  have e : r = 0 ∨ r = 1 ∨ r = 2 ∨ r = 3 ∨ r = 4 ∨ r = 5 ∨ r = 6 ∨ r = 7 ∨ r = 8 ∨ r = 9 := by omega
  rcases e with rfl | rfl | rfl | rfl | rfl | rfl | rfl | rfl | rfl | rfl
  · exact ⟨_, rfl, rfl, gR_int (by decide)⟩
  · exact ⟨_, rfl, rfl, gR_int (by decide)⟩
  · exact ⟨_, rfl, rfl, gR_bl _⟩
  · exact ⟨_, rfl, rfl, gR_non⟩
  · exact ⟨_, rfl, rfl, gR_str (str_lt "5" (by decide +kernel)) (by decide +kernel)⟩
  · exact ⟨_, rfl, rfl, gR_lst1⟩
  · exact ⟨_, rfl, rfl, gR_tup0⟩
  · exact ⟨_, rfl, rfl, gR_dct⟩
  · exact ⟨_, rfl, rfl, gR_int (by decide)⟩
  · exact ⟨_, rfl, rfl, gR_bl _⟩
theorem wrong_at {r : Int} (a : 0 ≤ r) (b : r < 10) :
    ∃ x, atI [D.int 0, .int 41, .int (-1), .bl true, .non, .str (Str.ofString "1"), .lst [.int 1], .tup [], .dct [], .int 100000000000000000000000000000] r = some x ∧ wholeB x 1 40 = false ∧ gR x := by
  have e : r = 0 ∨ r = 1 ∨ r = 2 ∨ r = 3 ∨ r = 4 ∨ r = 5 ∨ r = 6 ∨ r = 7 ∨ r = 8 ∨ r = 9 := by omega
  rcases e with rfl | rfl | rfl | rfl | rfl | rfl | rfl | rfl | rfl | rfl
  · exact ⟨_, rfl, rfl, gR_int (by decide)⟩
  · exact ⟨_, rfl, rfl, gR_int (by decide)⟩
  · exact ⟨_, rfl, rfl, gR_int (by decide)⟩
  · exact ⟨_, rfl, rfl, gR_bl _⟩
  · exact ⟨_, rfl, rfl, gR_non⟩
  · exact ⟨_, rfl, rfl, gR_str (str_lt "1" (by decide +kernel)) (by decide +kernel)⟩
  · exact ⟨_, rfl, rfl, gR_lst1⟩
  · exact ⟨_, rfl, rfl, gR_tup0⟩
  · exact ⟨_, rfl, rfl, gR_dct⟩
  · exact ⟨_, rfl, rfl, gR_int (by decide)⟩
theorem ws_law : WsC (Fx := XF) S_law t_law [.no, .no, .no, .no, .no, .no, .no, .no] := by
  rintro K cn as Φ fx ⟨ns, rfl, hl, h⟩
  unfold t_law
  walk_at "d0"
  walk_at "d"
  refine w_for (wi_range1 ?_)
  walk_at "d"
  refine ⟨_, rfl, by split <;> first | omega | (split <;> omega), by split <;> first | omega | (split <;> omega), ?_⟩
  refine ⟨fun i δ' => ∃ s1 s2 s3 s4 s5 s6 s7 s8, δ' = [.d (.ro (ns.map .int)), s1, s2, s3, s4, s5, s6, s7, s8], ⟨_, _, _, _, _, _, _, _, rfl⟩, fun i d δ' hd ⟨s1, s2, s3, s4, s5, s6, s7, s8, e⟩ => ?_, fun δ' ⟨s1, s2, s3, s4, s5, s6, s7, s8, e⟩ => ?_⟩
  · subst e
    obtain ⟨hi, rfl⟩ := rangeD_get hd
    rw [Int.zero_add]
    walk_at "d"
    refine use_cell hl fun v => ?_
    walk_at "d"
    refine use_box fun b x hb => ?_
    walk_at "d"
    refine use_take hb (by omega) (by omega) (by omega) fun r1 x1 g1 g2 hb1 => ?_
    walk_at "d"
    refine use_take hb1 (by omega) (by omega) (by omega) fun r2 x2 g3 g4 hb2 => ?_
    walk_at "d"
    obtain ⟨od, hod, o1, o2⟩ := odd_at g3 g4
    refine dIx_l hod ?_
    walk_at "d"
    refine use_take hb2 (by omega) (by omega) (by omega) fun r3 x3 g5 g6 hb3 => ?_
    walk_at "d"
    obtain ⟨wr, hwr, w1, w2⟩ := wrong_at g5 g6
    refine dIx_l hwr ?_
    walk_at "d"
    refine use_number hb3 (by omega) fun n x4 hn hb4 => ?_
    walk_at "d"
    refine use_bits hb4 (by omega) fun m x5 hm1 hm2 hb5 => ?_
    walk_at "i"
    have ref1 : refD od wr = .lst [.str "number", od] := if_pos o1
    have ref2 : refD od (.int m) = .lst [.str "number", od] := if_pos o1
    have ref3 : refD (.int n) wr = .lst [.str "bits", wr] := if_neg (by rw [wh_ok (by omega) (by omega)]; simp)
    have rpo : rpOk (.lst [.str (Str.ofString "number"), od]) := rp2 (str_lt "number" (by decide +kernel)) (by decide +kernel) o2
    refine w_join (fun δ2 => ∃ s4, δ2 = [.d (.ro (ns.map .int)), .d (.int i), .own b x5, .d (.int r1), s4, .d od, .d wr, .d (.int n), .d (.int m)]) ?_ (fun δ2 ⟨s4, e⟩ => ?_)
    · walk_at "d"
      refine br_d (fun q => ?_) (fun q => ?_)
      · walk_at "d"
        refine use_refused o2.1 w2.1 (.inl o1) ?_
        rw [ref1]
        walk_at "d"
        refine dEqB_same (same2 o2) ?_
        walk_at "d"
        exact ⟨_, rfl⟩
      · walk_at "x"
        exact ⟨_, rfl⟩
    · subst e
      walk_at "d"
      refine use_right hn hm1 hm2 ?_
      walk_at "d"
      refine use_right (n := 0) (by omega) hm1 hm2 ?_
      walk_at "d"
      refine use_refused o2.1 rfl (.inl o1) ?_
      rw [ref2]
      walk_at "d"
      refine dEqB_same (same2 o2) ?_
      walk_at "d"
      refine use_refused rfl w2.1 (.inr w1) ?_
      rw [ref3]
      walk_at "d"
      refine dEqB_same (same2 w2) ?_
      walk_at "d"
      refine use_refused o2.1 w2.1 (.inl o1) ?_
      rw [ref1]
      walk_at "d"
      refine ⟨_, rfl, rpo, ?_⟩
      walk_at "d"
      refine ⟨_, rfl, rpo, ?_⟩
      walk_at "d"
      refine br_n (fun q => absurd rfl q) (fun _ => ?_)
      walk_at "d"
      have e41 : (41 : Int) - (m : Int) = ((41 - m : Nat) : Int) := by omega
      rw [e41]
      refine use_right hn (by omega) (by omega) ?_
      walk_at "d"
      exact ⟨_, _, _, _, _, _, _, _, rfl⟩
  · subst e
    walk_at "d"
    exact ⟨trivial, h⟩

def top (i : Nat) : Stmt := PySem.Challenge.pw_farmarks_k55_rounded.main.body.getD i (.Pass ⟨0, 0, 0, 0⟩)
abbrev s_is_whole : Stmt := top 5
theorem sc_is_whole : FnScope N_is_whole ["thing", "low", "high"] (defScope s_is_whole) := ⟨rfl, rfl, rfl, by decide +kernel, rfl, by decide +kernel, by decide +kernel⟩
abbrev s_need_bits : Stmt := top 9
theorem sc_need_bits : FnScope N_need_bits ["thing"] (defScope s_need_bits) := ⟨rfl, rfl, rfl, by decide +kernel, rfl, by decide +kernel, by decide +kernel⟩
abbrev s_raised_to : Stmt := top 10
theorem sc_raised_to : FnScope N_raised_to ["number", "bits"] (defScope s_raised_to) := ⟨rfl, rfl, rfl, by decide +kernel, rfl, by decide +kernel, by decide +kernel⟩
abbrev s_rounded : Stmt := top 11
theorem sc_rounded : FnScope N_rounded ["number", "bits"] (defScope s_rounded) := ⟨rfl, rfl, rfl, by decide +kernel, rfl, by decide +kernel, by decide +kernel⟩
abbrev s_l_cell : Stmt := top 13
theorem sc_l_cell : FnScope N_l_cell ["_law_script", "_law_k"] (defScope s_l_cell) := ⟨rfl, rfl, rfl, by decide +kernel, rfl, by decide +kernel, by decide +kernel⟩
abbrev s_l_box : Stmt := top 14
theorem sc_l_box : FnScope N_l_box ["_law_cell_here"] (defScope s_l_box) := ⟨rfl, rfl, rfl, by decide +kernel, rfl, by decide +kernel, by decide +kernel⟩
abbrev s_l_take : Stmt := top 15
theorem sc_l_take : FnScope N_l_take ["_law_box_here", "_law_many"] (defScope s_l_take) := ⟨rfl, rfl, rfl, by decide +kernel, rfl, by decide +kernel, by decide +kernel⟩
abbrev s_l_number : Stmt := top 16
theorem sc_l_number : FnScope N_l_number ["_law_box_here"] (defScope s_l_number) := ⟨rfl, rfl, rfl, by decide +kernel, rfl, by decide +kernel, by decide +kernel⟩
abbrev s_l_bits : Stmt := top 17
theorem sc_l_bits : FnScope N_l_bits ["_law_box_here"] (defScope s_l_bits) := ⟨rfl, rfl, rfl, by decide +kernel, rfl, by decide +kernel, by decide +kernel⟩
abbrev s_l_due : Stmt := top 18
theorem sc_l_due : FnScope N_l_due ["_law_number_here", "_law_bits_here"] (defScope s_l_due) := ⟨rfl, rfl, rfl, by decide +kernel, rfl, by decide +kernel, by decide +kernel⟩
abbrev s_l_refused : Stmt := top 19
theorem sc_l_refused : FnScope N_l_refused ["_law_number_here", "_law_bits_here"] (defScope s_l_refused) := ⟨rfl, rfl, rfl, by decide +kernel, rfl, by decide +kernel, by decide +kernel⟩
abbrev s_l_right : Stmt := top 20
theorem sc_l_right : FnScope N_l_right ["_law_number_here", "_law_bits_here"] (defScope s_l_right) := ⟨rfl, rfl, rfl, by decide +kernel, rfl, by decide +kernel, by decide +kernel⟩
abbrev s_law : Stmt := top 21
theorem sc_law : FnScope N_law ["_law_script"] (defScope s_law) := ⟨rfl, rfl, rfl, by decide +kernel, rfl, by decide +kernel, by decide +kernel⟩
abbrev s_NoNumber : Stmt := inClass (top 2) 0
theorem sc_NoNumber : FnScope ["self", "found"] ["self", "found"] (defScope s_NoNumber) := ⟨rfl, rfl, rfl, by decide +kernel, rfl, by decide +kernel, by decide +kernel⟩
abbrev s_NoBits : Stmt := inClass (top 3) 0
theorem sc_NoBits : FnScope ["self", "found"] ["self", "found"] (defScope s_NoBits) := ⟨rfl, rfl, rfl, by decide +kernel, rfl, by decide +kernel, by decide +kernel⟩

local macro_rules | `(tactic| walk_at "lenY") => `(tactic| (intro as Φ Y h; repeat first | (obtain ⟨h0, _⟩ := h; subst h0; rfl) | (obtain ⟨_, h⟩ := h)))
local macro_rules | `(tactic| walk_at "len") => `(tactic| (intro as Φ h; repeat first | (obtain ⟨h0, _⟩ := h; subst h0; rfl) | (obtain ⟨_, h⟩ := h)))
theorem len_is_whole : ∀ as Φ, S_is_whole as Φ → as.length = 3 := by walk_at "len"
theorem len_need_bits : ∀ as Φ Y, S_need_bits as Φ Y → as.length = 1 := by walk_at "lenY"
theorem len_raised_to : ∀ as Φ, S_raised_to as Φ → as.length = 2 := by walk_at "len"
theorem len_rounded : ∀ as Φ Y, S_rounded as Φ Y → as.length = 2 := by walk_at "lenY"
theorem len_l_cell : ∀ as Φ, S_l_cell as Φ → as.length = 2 := by walk_at "len"
theorem len_l_box : ∀ as Φ, S_l_box as Φ → as.length = 1 := by walk_at "len"
theorem len_l_take : ∀ as Φ, S_l_take as Φ → as.length = 2 := by walk_at "len"
theorem len_l_number : ∀ as Φ, S_l_number as Φ → as.length = 1 := by walk_at "len"
theorem len_l_bits : ∀ as Φ, S_l_bits as Φ → as.length = 1 := by walk_at "len"
theorem len_l_due : ∀ as Φ, S_l_due as Φ → as.length = 2 := by walk_at "len"
theorem len_l_refused : ∀ as Φ, S_l_refused as Φ → as.length = 2 := by walk_at "len"
theorem len_l_right : ∀ as Φ, S_l_right as Φ → as.length = 2 := by walk_at "len"
theorem len_law : ∀ as Φ, S_law as Φ → as.length = 1 := by walk_at "len"
theorem reps_ints {K : PySem.W.Frag} {G : Hp} : ∀ ns : List Int, Reps K G (ns.map D.int) (ns.map V.int)
  | [] => reps_nil
  | n :: ns => reps_cons rep_int (reps_ints ns)
theorem law_in {K : PySem.W.Frag} {H : Hp} {a : Addr} {ns : List Int} (hl : ns.length ≤ 63) (hb : ∀ z ∈ ns, Builtin.Int.intBits z ≤ 1048576) (h : SqL K H a (ns.map V.int)) : lift K S_law [.ref a] H (fun v _ => v = .bl true) (fun _ _ _ => False) := by
  refine ⟨fun _ => none, H, [.d (.ro (ns.map .int))], ⟨fun b o e => (nomatch e), Ex.refl H, fun b => .inl rfl, ⟨_, _, rfl, ⟨_, rfl, ?_⟩, rfl⟩, fun a h => (nomatch h), List.nodup_nil⟩, ns, rfl, hl, fun v G' H' _ _ rv => ?_⟩
  · unfold Rep
    exact ⟨a, _, rfl, h, reps_ints ns⟩
  · have rv' : Rep K G' (.bl true) v := rv
    unfold Rep at rv'
    exact rv'
/-- what the top has written -/
structure DefOk (K : PySem.W.Frag) (mg : Str → Option Value) (x : Str) (st : Stmt) (ps : List Str) (a : Addr) (fd : FuncData) : Prop where
  fn : Fun K x x st a fd
  b : Binds K fd ps []
  g : mg x = some (.ref a)
structure Txt (K : PySem.W.Frag) (mg : Str → Option Value) (cn : Cn) where
  xf : XF K cn
  xb : ExcBase K mg cn.bs "MarkError"
  fi_NoNumber : Addr
  fd_NoNumber : FuncData
  x_NoNumber : ExcDef K mg (cn.ad 0) "NoNumber" "NoNumber.__init__" s_NoNumber "found" fi_NoNumber fd_NoNumber
  fi_NoBits : Addr
  fd_NoBits : FuncData
  x_NoBits : ExcDef K mg (cn.ad 1) "NoBits" "NoBits.__init__" s_NoBits "found" fi_NoBits fd_NoBits
  a_is_whole : Addr
  f_is_whole : FuncData
  d_is_whole : DefOk K mg "is_whole" s_is_whole ["thing", "low", "high"] a_is_whole f_is_whole
  a_need_bits : Addr
  f_need_bits : FuncData
  d_need_bits : DefOk K mg "need_bits" s_need_bits ["thing"] a_need_bits f_need_bits
  a_raised_to : Addr
  f_raised_to : FuncData
  d_raised_to : DefOk K mg "raised_to" s_raised_to ["number", "bits"] a_raised_to f_raised_to
  a_rounded : Addr
  f_rounded : FuncData
  d_rounded : DefOk K mg "rounded" s_rounded ["number", "bits"] a_rounded f_rounded
  a_l_cell : Addr
  f_l_cell : FuncData
  d_l_cell : DefOk K mg "_law_cell" s_l_cell ["_law_script", "_law_k"] a_l_cell f_l_cell
  a_l_box : Addr
  f_l_box : FuncData
  d_l_box : DefOk K mg "_law_box" s_l_box ["_law_cell_here"] a_l_box f_l_box
  a_l_take : Addr
  f_l_take : FuncData
  d_l_take : DefOk K mg "_law_take" s_l_take ["_law_box_here", "_law_many"] a_l_take f_l_take
  a_l_number : Addr
  f_l_number : FuncData
  d_l_number : DefOk K mg "_law_number" s_l_number ["_law_box_here"] a_l_number f_l_number
  a_l_bits : Addr
  f_l_bits : FuncData
  d_l_bits : DefOk K mg "_law_bits" s_l_bits ["_law_box_here"] a_l_bits f_l_bits
  a_l_due : Addr
  f_l_due : FuncData
  d_l_due : DefOk K mg "_law_due" s_l_due ["_law_number_here", "_law_bits_here"] a_l_due f_l_due
  a_l_refused : Addr
  f_l_refused : FuncData
  d_l_refused : DefOk K mg "_law_refused" s_l_refused ["_law_number_here", "_law_bits_here"] a_l_refused f_l_refused
  a_l_right : Addr
  f_l_right : FuncData
  d_l_right : DefOk K mg "_law_right" s_l_right ["_law_number_here", "_law_bits_here"] a_l_right f_l_right
  a_law : Addr
  f_law : FuncData
  d_law : DefOk K mg "law" s_law ["_law_script"] a_law f_law
  n_bool : mg "bool" = none
  n_int : mg "int" = none
  n_isinstance : mg "isinstance" = none
  n_len : mg "len" = none
  n_max : mg "max" = none
  n_min : mg "min" = none
  n_range : mg "range" = none
  n_repr : mg "repr" = none
  c_MOST_BITS : ∃ t, mg "MOST_BITS" = some (.int 40 t)
  c_MOST_NUMBER : ∃ t, mg "MOST_NUMBER" = some (.int 10000000000000 t)
section
variable {P : Program} {w : World} {K : PySem.W.Frag} {mg : Str → Option Value} {base : Heap} {cn : Cn}
theorem ini_NoNumber (T : Txt K mg cn) : FnOk P w K mg base CX0 1 T.fi_NoNumber T.fd_NoNumber ["self", "found"] (spInit K "found") := by
  refine T.x_NoNumber.fn.ok sc_NoNumber (fun vs H Q E h => spInit_len h) (fun cdv A outer s H vs Q E hr h => ⟨_, ?_, init_reads (N := ["self", "found"]) (m := "no number for this") rfl h⟩)
  exact (pss_cons (ps_expr (pe_meinit (by rfl) T.xb.g T.xb.rd T.xb.vV (pa_cons (pv 0) (pa_cons pe_str pa_nil)))) (pss_one (ps_ost (pv 0) (pv 1))))
theorem ini_NoBits (T : Txt K mg cn) : FnOk P w K mg base CX0 1 T.fi_NoBits T.fd_NoBits ["self", "found"] (spInit K "found") := by
  refine T.x_NoBits.fn.ok sc_NoBits (fun vs H Q E h => spInit_len h) (fun cdv A outer s H vs Q E hr h => ⟨_, ?_, init_reads (N := ["self", "found"]) (m := "no count of figures of two") rfl h⟩)
  exact (pss_cons (ps_expr (pe_meinit (by rfl) T.xb.g T.xb.rd T.xb.vV (pa_cons (pv 0) (pa_cons pe_str pa_nil)))) (pss_one (ps_ost (pv 0) (pv 1))))
theorem ok_is_whole (T : Txt K mg cn) : FnG P w K mg base (L2.CX P w) 1 T.a_is_whole T.f_is_whole ["thing", "low", "high"] (lift K S_is_whole) := by
  refine okGX T.d_is_whole.fn sc_is_whole (fun vs H Q E h => lift_len len_is_whole h) (fun cdv A outer s H vs Q E hg hr h => ⟨t_is_whole K cn, ?_, lift_WsC (n := 3) (m := 0) T.xf len_is_whole rfl ws_is_whole h⟩)
  exact (pss_cons (ps_if (PW.pt (pw_or (pt_not (pt_tru (pe_callB call_isiA (by rfl) T.n_isinstance (by decide +kernel) (pa_cons (pv 0) (pa_cons (pe_bltn (v := .ty "int") (u := .type "int") (by rfl) T.n_int (by decide +kernel) rfl) pa_nil))) (fun _ => rfl))) (pw_or1 (pt_tru (pe_callB call_isiA (by rfl) T.n_isinstance (by decide +kernel) (pa_cons (pv 0) (pa_cons (pe_bltn (v := .ty "bool") (u := .type "bool") (by rfl) T.n_bool (by decide +kernel) rfl) pa_nil))) (fun _ => rfl))))) (pss_one (ps_ret pe_bl)) pss_nil)
      (pss_one (ps_ret (pe_chain op_leA op_leA (pv 1) (pv 0) (pv 2)))))
theorem ok_need_bits (T : Txt K mg cn) (G_is_whole : FnG P w K mg base (L2.CX P w) 1 T.a_is_whole T.f_is_whole ["thing", "low", "high"] (lift K S_is_whole)) : FnG P w K mg base (L2.CX P w) 3 T.a_need_bits T.f_need_bits ["thing"] (liftX K cn S_need_bits) := by
  refine okGX T.d_need_bits.fn sc_need_bits (fun vs H Q E h => liftX_len len_need_bits h) (fun cdv A outer s H vs Q E hg hr h => ⟨t_need_bits K cn (fun cls d _ H => E cls d H), ?_, liftX_WsC (n := 1) (m := 0) T.xf len_need_bits rfl ws_need_bits h⟩)
  exact (pss_one (ps_if (pt_not (pt_tru (pe_callG G_is_whole hg (hr.mono (by decide)) (by rfl) T.d_is_whole.g T.d_is_whole.fn.kp T.d_is_whole.b .nil passL (pa_cons (pv 0) (pa_cons pe_int (pa_cons (pe_glob rfl T.c_MOST_BITS.choose_spec ⟨_, rfl⟩) pa_nil)))) (fun _ => rfl))) (pss_one (ps_raise rfl tkX (pmk_oex T.x_NoBits.all.oex T.x_NoBits.iC T.x_NoBits.tI (ini_NoBits T) (hr.mono (by decide)) T.x_NoBits.b .nil pass0 (by rfl) T.x_NoBits.g (pa_cons (pv 0) pa_nil)))) pss_nil))
theorem ok_raised_to (T : Txt K mg cn) : FnG P w K mg base (L2.CX P w) 1 T.a_raised_to T.f_raised_to ["number", "bits"] (lift K S_raised_to) := by
  refine okGX T.d_raised_to.fn sc_raised_to (fun vs H Q E h => lift_len len_raised_to h) (fun cdv A outer s H vs Q E hg hr h => ⟨t_raised_to K cn, ?_, lift_WsC (n := 2) (m := 1) T.xf len_raised_to rfl ws_raised_to h⟩)
  exact (pss_cons (ps_set (i := 2) sc_raised_to.nd rfl (.inl rfl) pe_int)
      (pss_cons (ps_while psX (pt_cmpR op_geA (pe_op op_shrA (pv 0) (pv 2)) (pe_op op_shlA pe_int (pv 1)) (nomark _)) (pss_one (ps_aug (i := 2) sc_raised_to.nd rfl (.inl rfl) pe_int iop_addA)))
      (pss_one (ps_ret (pe_op op_shlA (pe_op op_shrA (pe_op op_subA (pe_op op_addA (pv 0) (pe_op op_shlA pe_int (pv 2))) pe_int) (pv 2)) (pv 2))))))
theorem ok_rounded (T : Txt K mg cn) (G_is_whole : FnG P w K mg base (L2.CX P w) 1 T.a_is_whole T.f_is_whole ["thing", "low", "high"] (lift K S_is_whole)) (G_need_bits : FnG P w K mg base (L2.CX P w) 3 T.a_need_bits T.f_need_bits ["thing"] (liftX K cn S_need_bits)) (G_raised_to : FnG P w K mg base (L2.CX P w) 1 T.a_raised_to T.f_raised_to ["number", "bits"] (lift K S_raised_to)) : FnG P w K mg base (L2.CX P w) 4 T.a_rounded T.f_rounded ["number", "bits"] (liftX K cn S_rounded) := by
  refine okGX T.d_rounded.fn sc_rounded (fun vs H Q E h => liftX_len len_rounded h) (fun cdv A outer s H vs Q E hg hr h => ⟨t_rounded K cn (fun cls d _ H => E cls d H), ?_, liftX_WsC (n := 2) (m := 0) T.xf len_rounded rfl ws_rounded h⟩)
  exact (pss_cons (ps_if (pt_not (pt_tru (pe_callG G_is_whole hg (hr.mono (by decide)) (by rfl) T.d_is_whole.g T.d_is_whole.fn.kp T.d_is_whole.b .nil passL (pa_cons (pv 0) (pa_cons pe_int (pa_cons (pe_glob rfl T.c_MOST_NUMBER.choose_spec ⟨_, rfl⟩) pa_nil)))) (fun _ => rfl))) (pss_one (ps_raise rfl tkX (pmk_oex T.x_NoNumber.all.oex T.x_NoNumber.iC T.x_NoNumber.tI (ini_NoNumber T) (hr.mono (by decide)) T.x_NoNumber.b .nil pass0 (by rfl) T.x_NoNumber.g (pa_cons (pv 0) pa_nil)))) pss_nil)
      (pss_cons (ps_expr (pe_callSG G_need_bits hg (hr.mono (by decide)) (by rfl) T.d_need_bits.g T.d_need_bits.fn.kp T.d_need_bits.b (fun σ => passAt tkX σ) (pa_cons (pv 1) pa_nil)))
      (pss_one (ps_ret (pe_callG G_raised_to hg (hr.mono (by decide)) (by rfl) T.d_raised_to.g T.d_raised_to.fn.kp T.d_raised_to.b .nil passL (pa_cons (pv 0) (pa_cons (pv 1) pa_nil)))))))
theorem ok_l_cell (T : Txt K mg cn) : FnG P w K mg base (L2.CX P w) 1 T.a_l_cell T.f_l_cell ["_law_script", "_law_k"] (lift K S_l_cell) := by
  refine okGX T.d_l_cell.fn sc_l_cell (fun vs H Q E h => lift_len len_l_cell h) (fun cdv A outer s H vs Q E hg hr h => ⟨t_l_cell K cn, ?_, lift_WsC (n := 2) (m := 0) T.xf len_l_cell rfl ws_l_cell h⟩)
  exact (pss_cons (ps_if (pt_cmpR op_ltA (pv 1) (pe_callB call_lenA (by rfl) T.n_len (by decide +kernel) (pa_cons (pv 0) pa_nil)) (nomark _)) (pss_one (ps_ret (pe_ix ix_seq (pv 0) (pv 1) (fun _ _ => rfl)))) pss_nil)
      (pss_one (ps_ret (pe_op op_addA (pe_op op_mulB pe_int (pv 1)) pe_int))))
theorem ok_l_box (T : Txt K mg cn) : FnG P w K mg base (L2.CX P w) 1 T.a_l_box T.f_l_box ["_law_cell_here"] (lift K S_l_box) := by
  refine okGX T.d_l_box.fn sc_l_box (fun vs H Q E h => lift_len len_l_box h) (fun cdv A outer s H vs Q E hg hr h => ⟨t_l_box K cn, ?_, lift_WsC (n := 1) (m := 0) T.xf len_l_box rfl ws_l_box h⟩)
  exact (pss_one (ps_ret (pe_lst (pa_cons (pe_callB (call_maxA rfl) (by rfl) T.n_max (by decide +kernel) (pa_cons pe_int (pa_cons (pe_op op_subA (pv 0) (pe_op op_powA pe_int pe_int)) pa_nil))) (pa_cons (pe_op op_modA (pv 0) pe_int) (pa_cons pe_int pa_nil))))))
theorem ok_l_take (T : Txt K mg cn) : FnG P w K mg base (L2.CX P w) 1 T.a_l_take T.f_l_take ["_law_box_here", "_law_many"] (lift K S_l_take) := by
  refine okGX T.d_l_take.fn sc_l_take (fun vs H Q E h => lift_len len_l_take h) (fun cdv A outer s H vs Q E hg hr h => ⟨t_l_take K cn, ?_, lift_WsC (n := 2) (m := 3) T.xf len_l_take rfl ws_l_take h⟩)
  exact (pss_cons (ps_if (pt_cmpR op_gtA (pe_ix ix_seq (pv 0) pe_int (fun _ _ => rfl)) pe_int (nomark _)) (pss_cons (ps_set (i := 2) sc_l_take.nd rfl (.inl rfl) (pe_op op_modA (pe_ix ix_seq (pv 0) pe_int (fun _ _ => rfl)) (pv 1)))
      (pss_cons (ps_asg (pe_op op_divA (pe_ix ix_seq (pv 0) pe_int (fun _ _ => rfl)) (pv 1)) (pg_sub (pv 0) pe_int set_list))
      (pss_one (ps_ret (pv 2))))) pss_nil)
      (pss_cons (ps_asg (pe_op op_addA (pe_ix ix_seq (pv 0) pe_int (fun _ _ => rfl)) pe_int) (pg_sub (pv 0) pe_int set_list))
      (pss_cons (ps_set (i := 3) sc_l_take.nd rfl (.inl rfl) (pe_op op_modA (pe_op op_powA (pe_op op_addA (pe_op op_addA (pe_op op_mulB (pe_ix ix_seq (pv 0) pe_int (fun _ _ => rfl)) (pe_op op_addA (pe_op op_mulB pe_int (pe_ix ix_seq (pv 0) pe_int (fun _ _ => rfl))) pe_int)) (pe_op op_mulB pe_int (pe_ix ix_seq (pv 0) pe_int (fun _ _ => rfl)))) pe_int) pe_int) pe_int))
      (pss_cons (ps_set (i := 4) sc_l_take.nd rfl (.inl rfl) (pe_op op_modA (pe_op op_powA (pe_op op_addA (pe_op op_mulB (pv 3) (pe_op op_addA (pe_ix ix_seq (pv 0) pe_int (fun _ _ => rfl)) pe_int)) pe_int) pe_int) pe_int))
      (pss_one (ps_ret (pe_op op_modA (pe_op op_addA (pe_op op_divA (pv 3) pe_int) (pe_op op_divA (pv 4) pe_int)) (pv 1))))))))
theorem ok_l_number (T : Txt K mg cn) (G_l_take : FnG P w K mg base (L2.CX P w) 1 T.a_l_take T.f_l_take ["_law_box_here", "_law_many"] (lift K S_l_take)) : FnG P w K mg base (L2.CX P w) 2 T.a_l_number T.f_l_number ["_law_box_here"] (lift K S_l_number) := by
  refine okGX T.d_l_number.fn sc_l_number (fun vs H Q E h => lift_len len_l_number h) (fun cdv A outer s H vs Q E hg hr h => ⟨t_l_number K cn, ?_, lift_WsC (n := 1) (m := 1) T.xf len_l_number rfl ws_l_number h⟩)
  exact (pss_cons (ps_set (i := 1) sc_l_number.nd rfl (.inl rfl) (pe_callG G_l_take hg (hr.mono (by decide)) (by rfl) T.d_l_take.g T.d_l_take.fn.kp T.d_l_take.b .nil passL (pa_cons (pv 0) (pa_cons pe_int pa_nil))))
      (pss_cons (ps_if (pt_cmpR (op_eqA hr.units) (pv 1) pe_int (nomark _)) (pss_one (ps_ret (pe_callG G_l_take hg (hr.mono (by decide)) (by rfl) T.d_l_take.g T.d_l_take.fn.kp T.d_l_take.b .nil passL (pa_cons (pv 0) (pa_cons pe_int pa_nil))))) pss_nil)
      (pss_cons (ps_if (pt_cmpR (op_eqA hr.units) (pv 1) pe_int (nomark _)) (pss_one (ps_ret (pe_op op_subA (pe_op op_powA pe_int pe_int) (pe_callG G_l_take hg (hr.mono (by decide)) (by rfl) T.d_l_take.g T.d_l_take.fn.kp T.d_l_take.b .nil passL (pa_cons (pv 0) (pa_cons pe_int pa_nil)))))) pss_nil)
      (pss_cons (ps_if (pt_cmpR (op_eqA hr.units) (pv 1) pe_int (nomark _)) (pss_one (ps_ret (pe_op op_subA (pe_op op_addA (pe_op op_shlA pe_int (pe_callG G_l_take hg (hr.mono (by decide)) (by rfl) T.d_l_take.g T.d_l_take.fn.kp T.d_l_take.b .nil passL (pa_cons (pv 0) (pa_cons pe_int pa_nil)))) (pe_callG G_l_take hg (hr.mono (by decide)) (by rfl) T.d_l_take.g T.d_l_take.fn.kp T.d_l_take.b .nil passL (pa_cons (pv 0) (pa_cons pe_int pa_nil)))) pe_int))) pss_nil)
      (pss_cons (ps_if (pt_cmpR (op_eqA hr.units) (pv 1) pe_int (nomark _)) (pss_one (ps_ret (pe_callG G_l_take hg (hr.mono (by decide)) (by rfl) T.d_l_take.g T.d_l_take.fn.kp T.d_l_take.b .nil passL (pa_cons (pv 0) (pa_cons (pe_op op_powA pe_int pe_int) pa_nil))))) pss_nil)
      (pss_one (ps_ret (pe_op op_addA (pe_op op_mulB (pe_callG G_l_take hg (hr.mono (by decide)) (by rfl) T.d_l_take.g T.d_l_take.fn.kp T.d_l_take.b .nil passL (pa_cons (pv 0) (pa_cons (pe_op op_powA pe_int pe_int) pa_nil))) (pe_op op_powA pe_int pe_int)) (pe_callG G_l_take hg (hr.mono (by decide)) (by rfl) T.d_l_take.g T.d_l_take.fn.kp T.d_l_take.b .nil passL (pa_cons (pv 0) (pa_cons (pe_op op_powA pe_int pe_int) pa_nil)))))))))))
theorem ok_l_bits (T : Txt K mg cn) (G_l_take : FnG P w K mg base (L2.CX P w) 1 T.a_l_take T.f_l_take ["_law_box_here", "_law_many"] (lift K S_l_take)) : FnG P w K mg base (L2.CX P w) 2 T.a_l_bits T.f_l_bits ["_law_box_here"] (lift K S_l_bits) := by
  refine okGX T.d_l_bits.fn sc_l_bits (fun vs H Q E h => lift_len len_l_bits h) (fun cdv A outer s H vs Q E hg hr h => ⟨t_l_bits K cn, ?_, lift_WsC (n := 1) (m := 0) T.xf len_l_bits rfl ws_l_bits h⟩)
  exact (pss_one (ps_ret (pe_ix ix_seq (pe_lst (pa_cons pe_int (pa_cons pe_int (pa_cons (pe_op op_addA pe_int (pe_callG G_l_take hg (hr.mono (by decide)) (by rfl) T.d_l_take.g T.d_l_take.fn.kp T.d_l_take.b .nil passL (pa_cons (pv 0) (pa_cons pe_int pa_nil)))) (pa_cons (pe_op op_addA pe_int (pe_callG G_l_take hg (hr.mono (by decide)) (by rfl) T.d_l_take.g T.d_l_take.fn.kp T.d_l_take.b .nil passL (pa_cons (pv 0) (pa_cons pe_int pa_nil)))) pa_nil))))) (pe_callG G_l_take hg (hr.mono (by decide)) (by rfl) T.d_l_take.g T.d_l_take.fn.kp T.d_l_take.b .nil passL (pa_cons (pv 0) (pa_cons pe_int pa_nil))) (fun _ _ => rfl))))
theorem ok_l_due (T : Txt K mg cn) : FnG P w K mg base (L2.CX P w) 1 T.a_l_due T.f_l_due ["_law_number_here", "_law_bits_here"] (lift K S_l_due) := by
  refine okGX T.d_l_due.fn sc_l_due (fun vs H Q E h => lift_len len_l_due h) (fun cdv A outer s H vs Q E hg hr h => ⟨t_l_due K cn, ?_, lift_WsC (n := 2) (m := 1) T.xf len_l_due rfl ws_l_due h⟩)
  exact (pss_cons (ps_set (i := 2) sc_l_due.nd rfl (.inl rfl) pe_int)
      (pss_cons (ps_while psX (pt_cmpR op_geA (pv 0) (pe_op op_mulB (pv 2) (pe_op op_shlA pe_int (pv 1))) (nomark _)) (pss_one (ps_set (i := 2) sc_l_due.nd rfl (.inl rfl) (pe_op op_mulB pe_int (pv 2)))))
      (pss_one (ps_ret (pe_op op_mulB (pe_op op_divA (pe_op op_subA (pe_op op_addA (pv 0) (pv 2)) pe_int) (pv 2)) (pv 2))))))
theorem ok_l_refused (T : Txt K mg cn) (G_rounded : FnG P w K mg base (L2.CX P w) 4 T.a_rounded T.f_rounded ["number", "bits"] (liftX K cn S_rounded)) : FnG P w K mg base (L2.CX P w) 5 T.a_l_refused T.f_l_refused ["_law_number_here", "_law_bits_here"] (lift K S_l_refused) := by
  refine okGX T.d_l_refused.fn sc_l_refused (fun vs H Q E h => lift_len len_l_refused h) (fun cdv A outer s H vs Q E hg hr h => ⟨t_l_refused K cn, ?_, lift_WsC (n := 2) (m := 2) T.xf len_l_refused rfl ws_l_refused h⟩)
  exact (pss_cons (ps_set (i := 2) sc_l_refused.nd rfl (.inl rfl) (pe_lst pa_nil))
      (pss_cons (ps_try_as (i := 3) (c := .ref cn.bs) (ts := fun a cls d => (tSeq (tIfS (tTruth K (tCB (rIsG K a cls d) (tCons (tVar 3) (tCons (tC (.ref (cn.ad 0))) tNil)))) (tDrop (tBM K "list" rAppend (tVar 2) (tCons (tLst (tCons (tC (.str "number")) (tCons (tXfX K a cls d "found" (tVar 3)) tNil))) tNil))) tNext)
    (tIfS (tTruth K (tCB (rIsG K a cls d) (tCons (tVar 3) (tCons (tC (.ref (cn.ad 1))) tNil)))) (tDrop (tBM K "list" rAppend (tVar 2) (tCons (tLst (tCons (tC (.str "bits")) (tCons (tXfX K a cls d "found" (tVar 3)) tNil))) tNil))) tNext))) (tb := fun W => (tDrop (tCallS (liftX K cn S_rounded) (L2.WE W) (tCons (tVar 0) (tCons (tVar 1) tNil))))) rfl rfl sc_l_refused.nd rfl rfl ⟨by rfl, by decide, .inl T.xb.g⟩ takes0
      (fun W pn xe tk hps => (pss_one (ps_expr (pe_callSG G_rounded hg (hr.mono (by decide)) (by rfl) T.d_rounded.g T.d_rounded.fn.kp T.d_rounded.b (fun σ => passAt tk σ) (pa_cons (pv 0) (pa_cons (pv 1) pa_nil))))))
      (fun a oe cls d pn hz hf => (pss_cons (ps_if (pt_tru (pe_callB (call_isG hz hf) (by rfl) T.n_isinstance (by decide +kernel) (pa_cons (pv 3) (pa_cons (pe_glob rfl T.x_NoNumber.g rfl) pa_nil))) (fun _ => rfl)) (pss_one (ps_expr (pe_bm PySem.F.plainAttrs_list PySem.F.slot_list_append PySem.F.type_list_append mt_appendA (pv 2) (pa_cons (pe_lst (pa_cons pe_str (pa_cons (pe_xfX hz hf (pv 3)) pa_nil))) pa_nil)))) pss_nil)
      (pss_one (ps_if (pt_tru (pe_callB (call_isG hz hf) (by rfl) T.n_isinstance (by decide +kernel) (pa_cons (pv 3) (pa_cons (pe_glob rfl T.x_NoBits.g rfl) pa_nil))) (fun _ => rfl)) (pss_one (ps_expr (pe_bm PySem.F.plainAttrs_list PySem.F.slot_list_append PySem.F.type_list_append mt_appendA (pv 2) (pa_cons (pe_lst (pa_cons pe_str (pa_cons (pe_xfX hz hf (pv 3)) pa_nil))) pa_nil)))) pss_nil)))))
      (pss_one (ps_ret (pe_ifExp (pt_cmpR (op_eqA hr.units) (pe_callB call_lenA (by rfl) T.n_len (by decide +kernel) (pa_cons (pv 2) pa_nil)) pe_int (nomark _)) (pe_ix ix_seq (pv 2) pe_int (fun _ _ => rfl)) (pe_lst (pa_cons pe_str pa_nil)))))))
theorem ok_l_right (T : Txt K mg cn) (G_l_due : FnG P w K mg base (L2.CX P w) 1 T.a_l_due T.f_l_due ["_law_number_here", "_law_bits_here"] (lift K S_l_due)) (G_rounded : FnG P w K mg base (L2.CX P w) 4 T.a_rounded T.f_rounded ["number", "bits"] (liftX K cn S_rounded)) : FnG P w K mg base (L2.CX P w) 5 T.a_l_right T.f_l_right ["_law_number_here", "_law_bits_here"] (lift K S_l_right) := by
  refine okGX T.d_l_right.fn sc_l_right (fun vs H Q E h => lift_len len_l_right h) (fun cdv A outer s H vs Q E hg hr h => ⟨t_l_right K cn, ?_, lift_WsC (n := 2) (m := 2) T.xf len_l_right rfl ws_l_right h⟩)
  exact (pss_cons (ps_set (i := 2) sc_l_right.nd rfl (.inl rfl) (pe_callG G_l_due hg (hr.mono (by decide)) (by rfl) T.d_l_due.g T.d_l_due.fn.kp T.d_l_due.b .nil passL (pa_cons (pv 0) (pa_cons (pv 1) pa_nil))))
      (pss_cons (ps_set (i := 3) sc_l_right.nd rfl (.inl rfl) (pe_callG G_rounded hg (hr.mono (by decide)) (by rfl) T.d_rounded.g T.d_rounded.fn.kp T.d_rounded.b .nil passL (pa_cons (pv 0) (pa_cons (pv 1) pa_nil))))
      (pss_cons (ps_if (PW.pt (pw_or (pt_not (pt_tru (pe_callB call_isiA (by rfl) T.n_isinstance (by decide +kernel) (pa_cons (pv 3) (pa_cons (pe_bltn (v := .ty "int") (u := .type "int") (by rfl) T.n_int (by decide +kernel) rfl) pa_nil))) (fun _ => rfl))) (pw_or (pt_tru (pe_callB call_isiA (by rfl) T.n_isinstance (by decide +kernel) (pa_cons (pv 3) (pa_cons (pe_bltn (v := .ty "bool") (u := .type "bool") (by rfl) T.n_bool (by decide +kernel) rfl) pa_nil))) (fun _ => rfl)) (pw_or1 (pt_cmpR (op_neA hr.units) (pv 3) (pv 2) (nomark _)))))) (pss_one (ps_ret pe_bl)) pss_nil)
      (pss_cons (ps_if (pt_cmpR op_gtA (pe_op op_mulB (pe_op op_subA (pv 3) (pv 0)) (pe_op op_shlA pe_int (pe_op op_subA (pv 1) pe_int))) (pv 0) (nomark _)) (pss_one (ps_ret pe_bl)) pss_nil)
      (pss_cons (ps_if (PW.pt (pw_and (pt_cmpR op_leA (pv 3) (pe_op op_powA pe_int pe_int) (nomark _)) (pw_and1 (pt_cmpR (op_neA hr.units) (pe_callG G_rounded hg (hr.mono (by decide)) (by rfl) T.d_rounded.g T.d_rounded.fn.kp T.d_rounded.b .nil passL (pa_cons (pv 3) (pa_cons (pv 1) pa_nil))) (pv 3) (nomark _))))) (pss_one (ps_ret pe_bl)) pss_nil)
      (pss_one (ps_ret (pe_or (pe_cmpR (op_eqA hr.units) (pv 1) pe_int (nomark _)) (pe_one (pe_cmpR op_leA (pe_callG G_rounded hg (hr.mono (by decide)) (by rfl) T.d_rounded.g T.d_rounded.fn.kp T.d_rounded.b .nil passL (pa_cons (pv 0) (pa_cons (pe_op op_addA (pv 1) pe_int) pa_nil))) (pv 3) (nomark _)))))))))))
theorem ok_law (T : Txt K mg cn) (G_l_bits : FnG P w K mg base (L2.CX P w) 2 T.a_l_bits T.f_l_bits ["_law_box_here"] (lift K S_l_bits)) (G_l_box : FnG P w K mg base (L2.CX P w) 1 T.a_l_box T.f_l_box ["_law_cell_here"] (lift K S_l_box)) (G_l_cell : FnG P w K mg base (L2.CX P w) 1 T.a_l_cell T.f_l_cell ["_law_script", "_law_k"] (lift K S_l_cell)) (G_l_number : FnG P w K mg base (L2.CX P w) 2 T.a_l_number T.f_l_number ["_law_box_here"] (lift K S_l_number)) (G_l_refused : FnG P w K mg base (L2.CX P w) 5 T.a_l_refused T.f_l_refused ["_law_number_here", "_law_bits_here"] (lift K S_l_refused)) (G_l_right : FnG P w K mg base (L2.CX P w) 5 T.a_l_right T.f_l_right ["_law_number_here", "_law_bits_here"] (lift K S_l_right)) (G_l_take : FnG P w K mg base (L2.CX P w) 1 T.a_l_take T.f_l_take ["_law_box_here", "_law_many"] (lift K S_l_take)) : FnG P w K mg base (L2.CX P w) 6 T.a_law T.f_law ["_law_script"] (lift K S_law) := by
  refine okGX T.d_law.fn sc_law (fun vs H Q E h => lift_len len_law h) (fun cdv A outer s H vs Q E hg hr h => ⟨t_law K cn, ?_, lift_WsC (n := 1) (m := 8) T.xf len_law rfl ws_law h⟩)
  exact (pss_cons (ps_for psX rfl (pi_range1 (by rfl) T.n_range (pa_cons (pe_callB (call_maxA rfl) (by rfl) T.n_max (by decide +kernel) (pa_cons pe_int (pa_cons (pe_callB (call_minA rfl) (by rfl) T.n_min (by decide +kernel) (pa_cons (pe_callB call_lenA (by rfl) T.n_len (by decide +kernel) (pa_cons (pv 0) pa_nil)) (pa_cons pe_int pa_nil))) pa_nil))) pa_nil)) (pg_name (i := 1) sc_law.nd rfl (.inl rfl)) (pss_cons (ps_set (i := 2) sc_law.nd rfl (.inl rfl) (pe_callG G_l_box hg (hr.mono (by decide)) (by rfl) T.d_l_box.g T.d_l_box.fn.kp T.d_l_box.b .nil passL (pa_cons (pe_callG G_l_cell hg (hr.mono (by decide)) (by rfl) T.d_l_cell.g T.d_l_cell.fn.kp T.d_l_cell.b .nil passL (pa_cons (pv 0) (pa_cons (pv 1) pa_nil))) pa_nil)))
      (pss_cons (ps_set (i := 3) sc_law.nd rfl (.inl rfl) (pe_callG G_l_take hg (hr.mono (by decide)) (by rfl) T.d_l_take.g T.d_l_take.fn.kp T.d_l_take.b .nil passL (pa_cons (pv 2) (pa_cons pe_int pa_nil))))
      (pss_cons (ps_set (i := 4) sc_law.nd rfl (.inl rfl) (pe_lst (pa_cons (pe_un un_negA pe_int) (pa_cons (pe_op op_addA (pe_op op_powA pe_int pe_int) pe_int) (pa_cons pe_bl (pa_cons pe_non (pa_cons pe_str (pa_cons (pe_lst (pa_cons pe_int pa_nil)) (pa_cons (pe_tup pa_nil) (pa_cons pe_dnewK (pa_cons (pe_op op_powA pe_int pe_int) (pa_cons pe_bl pa_nil))))))))))))
      (pss_cons (ps_set (i := 5) sc_law.nd rfl (.inl rfl) (pe_ix ix_seq (pv 4) (pe_callG G_l_take hg (hr.mono (by decide)) (by rfl) T.d_l_take.g T.d_l_take.fn.kp T.d_l_take.b .nil passL (pa_cons (pv 2) (pa_cons pe_int pa_nil))) (fun _ _ => rfl)))
      (pss_cons (ps_set (i := 6) sc_law.nd rfl (.inl rfl) (pe_ix ix_seq (pe_lst (pa_cons pe_int (pa_cons pe_int (pa_cons (pe_un un_negA pe_int) (pa_cons pe_bl (pa_cons pe_non (pa_cons pe_str (pa_cons (pe_lst (pa_cons pe_int pa_nil)) (pa_cons (pe_tup pa_nil) (pa_cons pe_dnewK (pa_cons (pe_op op_powA pe_int pe_int) pa_nil))))))))))) (pe_callG G_l_take hg (hr.mono (by decide)) (by rfl) T.d_l_take.g T.d_l_take.fn.kp T.d_l_take.b .nil passL (pa_cons (pv 2) (pa_cons pe_int pa_nil))) (fun _ _ => rfl)))
      (pss_cons (ps_set (i := 7) sc_law.nd rfl (.inl rfl) (pe_callG G_l_number hg (hr.mono (by decide)) (by rfl) T.d_l_number.g T.d_l_number.fn.kp T.d_l_number.b .nil passL (pa_cons (pv 2) pa_nil)))
      (pss_cons (ps_set (i := 8) sc_law.nd rfl (.inl rfl) (pe_callG G_l_bits hg (hr.mono (by decide)) (by rfl) T.d_l_bits.g T.d_l_bits.fn.kp T.d_l_bits.b .nil passL (pa_cons (pv 2) pa_nil)))
      (pss_cons (ps_if (PW.pt (pw_and (pt_cmpR (op_eqB hg hr.units) (pv 3) pe_int (nomark _)) (pw_and1 (pt_cmpR (op_neB hg hr.units) (pe_callG G_l_refused hg (hr.mono (by decide)) (by rfl) T.d_l_refused.g T.d_l_refused.fn.kp T.d_l_refused.b .nil passL (pa_cons (pv 5) (pa_cons (pv 6) pa_nil))) (pe_lst (pa_cons pe_str (pa_cons (pv 5) pa_nil))) (nomark _))))) (pss_one (ps_ret pe_bl)) pss_nil)
      (pss_cons (ps_if (PW.pt (pw_or (pt_not (pt_tru (pe_callG G_l_right hg (hr.mono (by decide)) (by rfl) T.d_l_right.g T.d_l_right.fn.kp T.d_l_right.b .nil passL (pa_cons (pv 7) (pa_cons (pv 8) pa_nil))) (fun _ => rfl))) (pw_or1 (pt_not (pt_tru (pe_callG G_l_right hg (hr.mono (by decide)) (by rfl) T.d_l_right.g T.d_l_right.fn.kp T.d_l_right.b .nil passL (pa_cons pe_int (pa_cons (pv 8) pa_nil))) (fun _ => rfl)))))) (pss_one (ps_ret pe_bl)) pss_nil)
      (pss_cons (ps_if (PW.pt (pw_or (pt_cmpR (op_neB hg hr.units) (pe_callG G_l_refused hg (hr.mono (by decide)) (by rfl) T.d_l_refused.g T.d_l_refused.fn.kp T.d_l_refused.b .nil passL (pa_cons (pv 5) (pa_cons (pv 8) pa_nil))) (pe_lst (pa_cons pe_str (pa_cons (pv 5) pa_nil))) (nomark _)) (pw_or1 (pt_cmpR (op_neB hg hr.units) (pe_callG G_l_refused hg (hr.mono (by decide)) (by rfl) T.d_l_refused.g T.d_l_refused.fn.kp T.d_l_refused.b .nil passL (pa_cons (pv 7) (pa_cons (pv 6) pa_nil))) (pe_lst (pa_cons pe_str (pa_cons (pv 6) pa_nil))) (nomark _))))) (pss_one (ps_ret pe_bl)) pss_nil)
      (pss_one (ps_if (PW.pt (pw_or (pt_cmpR (op_neB hg hr.units) (pe_callB (call_reprA hg hr.units) (by rfl) T.n_repr (by decide +kernel) (pa_cons (pe_callG G_l_refused hg (hr.mono (by decide)) (by rfl) T.d_l_refused.g T.d_l_refused.fn.kp T.d_l_refused.b .nil passL (pa_cons (pv 5) (pa_cons (pv 6) pa_nil))) pa_nil)) (pe_callB (call_reprA hg hr.units) (by rfl) T.n_repr (by decide +kernel) (pa_cons (pe_lst (pa_cons pe_str (pa_cons (pv 5) pa_nil))) pa_nil)) (nomark _)) (pw_or1 (pt_not (pt_tru (pe_callG G_l_right hg (hr.mono (by decide)) (by rfl) T.d_l_right.g T.d_l_right.fn.kp T.d_l_right.b .nil passL (pa_cons (pv 7) (pa_cons (pe_op op_subA pe_int (pv 8)) pa_nil))) (fun _ => rfl)))))) (pss_one (ps_ret pe_bl)) pss_nil)))))))))))))
      (pss_one (ps_ret pe_bl)))
theorem ok_all (T : Txt K mg cn) : FnG P w K mg base (L2.CX P w) 6 T.a_law T.f_law ["_law_script"] (lift K S_law) := by
  have G_is_whole : FnG P w K mg base (L2.CX P w) 1 T.a_is_whole T.f_is_whole ["thing", "low", "high"] (lift K S_is_whole) := ok_is_whole T
  have G_need_bits : FnG P w K mg base (L2.CX P w) 3 T.a_need_bits T.f_need_bits ["thing"] (liftX K cn S_need_bits) := ok_need_bits T G_is_whole
  have G_raised_to : FnG P w K mg base (L2.CX P w) 1 T.a_raised_to T.f_raised_to ["number", "bits"] (lift K S_raised_to) := ok_raised_to T
  have G_rounded : FnG P w K mg base (L2.CX P w) 4 T.a_rounded T.f_rounded ["number", "bits"] (liftX K cn S_rounded) := ok_rounded T G_is_whole G_need_bits G_raised_to
  have G_l_cell : FnG P w K mg base (L2.CX P w) 1 T.a_l_cell T.f_l_cell ["_law_script", "_law_k"] (lift K S_l_cell) := ok_l_cell T
  have G_l_box : FnG P w K mg base (L2.CX P w) 1 T.a_l_box T.f_l_box ["_law_cell_here"] (lift K S_l_box) := ok_l_box T
  have G_l_take : FnG P w K mg base (L2.CX P w) 1 T.a_l_take T.f_l_take ["_law_box_here", "_law_many"] (lift K S_l_take) := ok_l_take T
  have G_l_number : FnG P w K mg base (L2.CX P w) 2 T.a_l_number T.f_l_number ["_law_box_here"] (lift K S_l_number) := ok_l_number T G_l_take
  have G_l_bits : FnG P w K mg base (L2.CX P w) 2 T.a_l_bits T.f_l_bits ["_law_box_here"] (lift K S_l_bits) := ok_l_bits T G_l_take
  have G_l_due : FnG P w K mg base (L2.CX P w) 1 T.a_l_due T.f_l_due ["_law_number_here", "_law_bits_here"] (lift K S_l_due) := ok_l_due T
  have G_l_refused : FnG P w K mg base (L2.CX P w) 5 T.a_l_refused T.f_l_refused ["_law_number_here", "_law_bits_here"] (lift K S_l_refused) := ok_l_refused T G_rounded
  have G_l_right : FnG P w K mg base (L2.CX P w) 5 T.a_l_right T.f_l_right ["_law_number_here", "_law_bits_here"] (lift K S_l_right) := ok_l_right T G_l_due G_rounded
  have G_law : FnG P w K mg base (L2.CX P w) 6 T.a_law T.f_law ["_law_script"] (lift K S_law) := ok_law T G_l_bits G_l_box G_l_cell G_l_number G_l_refused G_l_right G_l_take
  exact G_law
end
theorem all_mk {l : PySem.W.OpenLaw} {w : World} {K : PySem.W.Frag} {h : Heap} {mg : Str → Option Value} {fa : Addr} (X : K.In h) (G : h.Ns mainGlobals mg) (hfa : mg "law" = some (.ref fa))
    {od1 an1 od2 an2 od3 an3 od4 an4 od5 an5 od6 an6 od7 an7 od8 an8 od9 an9 od10 an10 od11 an11 od12 an12 od13 an13 : Option Addr}
    {sl1 sl2 sl3 sl4 sl5 sl6 sl7 sl8 sl9 sl10 sl11 sl12 sl13 : Array (Option Value)}
    {oc1 kV1 dc1 pm1 cd1 ct1 oc2 kV2 dc2 pm2 cd2 ct2 oc3 kV3 dc3 pm3 cd3 ct3 oc4 kV4 dc4 pm4 cd4 ct4 oc5 kV5 dc5 pm5 cd5 ct5 oc6 kV6 dc6 pm6 cd6 ct6 oc7 kV7 dc7 pm7 cd7 ct7 oc8 kV8 dc8 pm8 cd8 ct8 oc9 kV9 dc9 pm9 cd9 ct9 oc10 kV10 dc10 pm10 cd10 ct10 oc11 kV11 dc11 pm11 cd11 ct11 oc12 kV12 dc12 pm12 cd12 ct12 oc13 kV13 dc13 pm13 cd13 ct13 : Value}
    {f1 f2 f3 f4 f5 f6 f7 f8 f9 f10 f11 f12 f13 : Addr}
    {tk_MOST_BITS tk_MOST_NUMBER : Tok}
    {CB : Addr}
    {C0 fI0 N0 : Addr} {nm0 q0 : Str} {bs0 bm0 sub0 : List Value} {sn0 : List Str} {ab0 : Bool} {col0 : Option Bool} {dd0 od_0 an_0 : Option Addr} {k0_0 k1_0 k2_0 k3_0 k5_0 : Option Value} {oc_0 kV_0 dc_0 pm_0 cd_0 ct_0 : Value} {sl_0 : Array (Option Value)}
    {C1 fI1 N1 : Addr} {nm1 q1 : Str} {bs1 bm1 sub1 : List Value} {sn1 : List Str} {ab1 : Bool} {col1 : Option Bool} {dd1 od_1 an_1 : Option Addr} {k0_1 k1_1 k2_1 k3_1 k5_1 : Option Value} {oc_1 kV_1 dc_1 pm_1 cd_1 ct_1 : Value} {sl_1 : Array (Option Value)}
    (a1 : PySem.W.nsIn K mainGlobals "is_whole" = some (some (.ref f1)))
    (l1 : K.lookup f1 = some ⟨oc1, od1, .func (PySem.W.fnOf "is_whole" "is_whole" (defArgs s_is_whole) (defBody s_is_whole) (defScope s_is_whole) .none kV1 dc1 pm1 an1 cd1 ct1), sl1⟩)
    (c1 : PySem.W.codeIn K cd1 "is_whole" = true) (k1 : PySem.W.keepIn K (.ref f1) = true)
    (a2 : PySem.W.nsIn K mainGlobals "need_bits" = some (some (.ref f2)))
    (l2 : K.lookup f2 = some ⟨oc2, od2, .func (PySem.W.fnOf "need_bits" "need_bits" (defArgs s_need_bits) (defBody s_need_bits) (defScope s_need_bits) .none kV2 dc2 pm2 an2 cd2 ct2), sl2⟩)
    (c2 : PySem.W.codeIn K cd2 "need_bits" = true) (k2 : PySem.W.keepIn K (.ref f2) = true)
    (a3 : PySem.W.nsIn K mainGlobals "raised_to" = some (some (.ref f3)))
    (l3 : K.lookup f3 = some ⟨oc3, od3, .func (PySem.W.fnOf "raised_to" "raised_to" (defArgs s_raised_to) (defBody s_raised_to) (defScope s_raised_to) .none kV3 dc3 pm3 an3 cd3 ct3), sl3⟩)
    (c3 : PySem.W.codeIn K cd3 "raised_to" = true) (k3 : PySem.W.keepIn K (.ref f3) = true)
    (a4 : PySem.W.nsIn K mainGlobals "rounded" = some (some (.ref f4)))
    (l4 : K.lookup f4 = some ⟨oc4, od4, .func (PySem.W.fnOf "rounded" "rounded" (defArgs s_rounded) (defBody s_rounded) (defScope s_rounded) .none kV4 dc4 pm4 an4 cd4 ct4), sl4⟩)
    (c4 : PySem.W.codeIn K cd4 "rounded" = true) (k4 : PySem.W.keepIn K (.ref f4) = true)
    (a5 : PySem.W.nsIn K mainGlobals "_law_cell" = some (some (.ref f5)))
    (l5 : K.lookup f5 = some ⟨oc5, od5, .func (PySem.W.fnOf "_law_cell" "_law_cell" (defArgs s_l_cell) (defBody s_l_cell) (defScope s_l_cell) .none kV5 dc5 pm5 an5 cd5 ct5), sl5⟩)
    (c5 : PySem.W.codeIn K cd5 "_law_cell" = true) (k5 : PySem.W.keepIn K (.ref f5) = true)
    (a6 : PySem.W.nsIn K mainGlobals "_law_box" = some (some (.ref f6)))
    (l6 : K.lookup f6 = some ⟨oc6, od6, .func (PySem.W.fnOf "_law_box" "_law_box" (defArgs s_l_box) (defBody s_l_box) (defScope s_l_box) .none kV6 dc6 pm6 an6 cd6 ct6), sl6⟩)
    (c6 : PySem.W.codeIn K cd6 "_law_box" = true) (k6 : PySem.W.keepIn K (.ref f6) = true)
    (a7 : PySem.W.nsIn K mainGlobals "_law_take" = some (some (.ref f7)))
    (l7 : K.lookup f7 = some ⟨oc7, od7, .func (PySem.W.fnOf "_law_take" "_law_take" (defArgs s_l_take) (defBody s_l_take) (defScope s_l_take) .none kV7 dc7 pm7 an7 cd7 ct7), sl7⟩)
    (c7 : PySem.W.codeIn K cd7 "_law_take" = true) (k7 : PySem.W.keepIn K (.ref f7) = true)
    (a8 : PySem.W.nsIn K mainGlobals "_law_number" = some (some (.ref f8)))
    (l8 : K.lookup f8 = some ⟨oc8, od8, .func (PySem.W.fnOf "_law_number" "_law_number" (defArgs s_l_number) (defBody s_l_number) (defScope s_l_number) .none kV8 dc8 pm8 an8 cd8 ct8), sl8⟩)
    (c8 : PySem.W.codeIn K cd8 "_law_number" = true) (k8 : PySem.W.keepIn K (.ref f8) = true)
    (a9 : PySem.W.nsIn K mainGlobals "_law_bits" = some (some (.ref f9)))
    (l9 : K.lookup f9 = some ⟨oc9, od9, .func (PySem.W.fnOf "_law_bits" "_law_bits" (defArgs s_l_bits) (defBody s_l_bits) (defScope s_l_bits) .none kV9 dc9 pm9 an9 cd9 ct9), sl9⟩)
    (c9 : PySem.W.codeIn K cd9 "_law_bits" = true) (k9 : PySem.W.keepIn K (.ref f9) = true)
    (a10 : PySem.W.nsIn K mainGlobals "_law_due" = some (some (.ref f10)))
    (l10 : K.lookup f10 = some ⟨oc10, od10, .func (PySem.W.fnOf "_law_due" "_law_due" (defArgs s_l_due) (defBody s_l_due) (defScope s_l_due) .none kV10 dc10 pm10 an10 cd10 ct10), sl10⟩)
    (c10 : PySem.W.codeIn K cd10 "_law_due" = true) (k10 : PySem.W.keepIn K (.ref f10) = true)
    (a11 : PySem.W.nsIn K mainGlobals "_law_refused" = some (some (.ref f11)))
    (l11 : K.lookup f11 = some ⟨oc11, od11, .func (PySem.W.fnOf "_law_refused" "_law_refused" (defArgs s_l_refused) (defBody s_l_refused) (defScope s_l_refused) .none kV11 dc11 pm11 an11 cd11 ct11), sl11⟩)
    (c11 : PySem.W.codeIn K cd11 "_law_refused" = true) (k11 : PySem.W.keepIn K (.ref f11) = true)
    (a12 : PySem.W.nsIn K mainGlobals "_law_right" = some (some (.ref f12)))
    (l12 : K.lookup f12 = some ⟨oc12, od12, .func (PySem.W.fnOf "_law_right" "_law_right" (defArgs s_l_right) (defBody s_l_right) (defScope s_l_right) .none kV12 dc12 pm12 an12 cd12 ct12), sl12⟩)
    (c12 : PySem.W.codeIn K cd12 "_law_right" = true) (k12 : PySem.W.keepIn K (.ref f12) = true)
    (a13 : PySem.W.nsIn K mainGlobals "law" = some (some (.ref f13)))
    (l13 : K.lookup f13 = some ⟨oc13, od13, .func (PySem.W.fnOf "law" "law" (defArgs s_law) (defBody s_law) (defScope s_law) .none kV13 dc13 pm13 an13 cd13 ct13), sl13⟩)
    (c13 : PySem.W.codeIn K cd13 "law" = true) (k13 : PySem.W.keepIn K (.ref f13) = true)
    (aB : PySem.W.nsIn K mainGlobals "MarkError" = some (some (.ref CB))) (bB1 : PySem.W.readsIn K CB (.type "type") = true) (bB2 : PySem.W.specialIn K (.ref CB) "__getattribute__" = some (some (.builtin "type.__getattribute__"))) (bB3 : PySem.W.findCls K (.ref CB) (.type "type") "__init__" = some (.val (.builtin "ValueError.__init__"))) (bB4 : PySem.W.subIn K (.ref CB) (.type "BaseException") = some true) (bB5 : PySem.W.hasDictIn K CB = true) (bB6 : PySem.W.typeIn K (.ref CB) = some (.type "type"))
    (oN : PySem.W.specialIn K (.builtin "object.__class__") "__get__" = some (some (.builtin "getset_descriptor.__get__"))) (oT : PySem.W.takesIn K (.builtin "object.__class__") = some true)
    (xa0 : PySem.W.nsIn K mainGlobals "NoNumber" = some (some (.ref C0)))
    (xl0 : K.lookup C0 = some (excClassObj nm0 q0 C0 N0 bs0 bm0 true sn0 sub0 ab0 col0 dd0 k0_0 k1_0 k2_0 k3_0 k5_0 "ValueError.__new__"))
    (xm0 : PySem.HandSPX.refsVE bm0 = true)
    (xs0 : PySem.W.findIn K (.ref C0) "__setattr__" = some (some (.builtin "object.__setattr__")))
    (xe0 : PySem.W.subIn K (.ref C0) (.type "BaseException") = some true)
    (xt0 : PySem.W.typeIn K (.ref C0) = some (.type "type"))
    (xk0 : PySem.W.keepIn K (.ref C0) = true)
    (xga0 : PySem.W.findIn K (.ref C0) "__getattribute__" = some (some (.builtin "BaseException.__getattribute__")))
    (xgg0 : PySem.W.findIn K (.ref C0) "__getattr__" = some none)
    (xhd0 : PySem.W.hasDictIn K C0 = true)
    (xfo0 : PySem.W.findIn K (.ref C0) "found" = some none)
    (xat0 : PySem.W.findIn K (.ref C0) "__class__" = some (some (.builtin "object.__class__")))
    (xmo0 : PySem.W.mroIn K C0 (.type "object") = some true)
    (xi0 : PySem.W.findIn K (.ref C0) "__init__" = some (some (.ref fI0)))
    (xti0 : PySem.W.typeIn K (.ref fI0) = some (.type "function"))
    (xli0 : K.lookup fI0 = some ⟨oc_0, od_0, .func (PySem.W.fnOf "__init__" "NoNumber.__init__" (defArgs s_NoNumber) (defBody s_NoNumber) (defScope s_NoNumber) .none kV_0 dc_0 pm_0 an_0 cd_0 ct_0), sl_0⟩)
    (xci0 : PySem.W.codeIn K cd_0 "NoNumber.__init__" = true)
    (xki0 : PySem.W.keepIn K (.ref fI0) = true)
    (xsb0 : PySem.W.subIn K (.ref C0) (.ref CB) = some true)
    (xa1 : PySem.W.nsIn K mainGlobals "NoBits" = some (some (.ref C1)))
    (xl1 : K.lookup C1 = some (excClassObj nm1 q1 C1 N1 bs1 bm1 true sn1 sub1 ab1 col1 dd1 k0_1 k1_1 k2_1 k3_1 k5_1 "ValueError.__new__"))
    (xm1 : PySem.HandSPX.refsVE bm1 = true)
    (xs1 : PySem.W.findIn K (.ref C1) "__setattr__" = some (some (.builtin "object.__setattr__")))
    (xe1 : PySem.W.subIn K (.ref C1) (.type "BaseException") = some true)
    (xt1 : PySem.W.typeIn K (.ref C1) = some (.type "type"))
    (xk1 : PySem.W.keepIn K (.ref C1) = true)
    (xga1 : PySem.W.findIn K (.ref C1) "__getattribute__" = some (some (.builtin "BaseException.__getattribute__")))
    (xgg1 : PySem.W.findIn K (.ref C1) "__getattr__" = some none)
    (xhd1 : PySem.W.hasDictIn K C1 = true)
    (xfo1 : PySem.W.findIn K (.ref C1) "found" = some none)
    (xat1 : PySem.W.findIn K (.ref C1) "__class__" = some (some (.builtin "object.__class__")))
    (xmo1 : PySem.W.mroIn K C1 (.type "object") = some true)
    (xi1 : PySem.W.findIn K (.ref C1) "__init__" = some (some (.ref fI1)))
    (xti1 : PySem.W.typeIn K (.ref fI1) = some (.type "function"))
    (xli1 : K.lookup fI1 = some ⟨oc_1, od_1, .func (PySem.W.fnOf "__init__" "NoBits.__init__" (defArgs s_NoBits) (defBody s_NoBits) (defScope s_NoBits) .none kV_1 dc_1 pm_1 an_1 cd_1 ct_1), sl_1⟩)
    (xci1 : PySem.W.codeIn K cd_1 "NoBits.__init__" = true)
    (xki1 : PySem.W.keepIn K (.ref fI1) = true)
    (xsb1 : PySem.W.subIn K (.ref C1) (.ref CB) = some true)
    (xq0_0 : PySem.W.kitOne K (.ref C0) (.ref C0) = some true)
    (xq0_1 : PySem.W.kitOne K (.ref C0) (.ref C1) = some false)
    (xq1_0 : PySem.W.kitOne K (.ref C1) (.ref C0) = some false)
    (xq1_1 : PySem.W.kitOne K (.ref C1) (.ref C1) = some true)
    (z_bool : PySem.W.nsIn K mainGlobals "bool" = some none)
    (z_int : PySem.W.nsIn K mainGlobals "int" = some none)
    (z_isinstance : PySem.W.nsIn K mainGlobals "isinstance" = some none)
    (z_len : PySem.W.nsIn K mainGlobals "len" = some none)
    (z_max : PySem.W.nsIn K mainGlobals "max" = some none)
    (z_min : PySem.W.nsIn K mainGlobals "min" = some none)
    (z_range : PySem.W.nsIn K mainGlobals "range" = some none)
    (z_repr : PySem.W.nsIn K mainGlobals "repr" = some none)
    (v_MOST_BITS : PySem.W.nsIn K mainGlobals "MOST_BITS" = some (some (.int 40 tk_MOST_BITS)))
    (v_MOST_NUMBER : PySem.W.nsIn K mainGlobals "MOST_NUMBER" = some (some (.int 10000000000000 tk_MOST_NUMBER))) :
    ∃ fd : FuncData, (∀ (s : Shared) (v : Value), BindsTo s fd ⟨[v], []⟩ [("_law_script", v)]) ∧ ∀ base : Heap, K.In base → base.Ns mainGlobals mg → FnG l.prog w K mg base (L2.CX l.prog w) 6 fa fd ["_law_script"] (lift K S_law) := by
  have e := hfa.symm.trans (PySem.W.mg_of X G a13)
  cases e
  have F1 := fun_mk (st := s_is_whole) l1 c1 k1
  have b1 := F1.binds (ps := ["thing", "low", "high"]) fun _ _ _ _ _ _ us hl => match us, hl with | [_, _, _], _ => rfl
  have F2 := fun_mk (st := s_need_bits) l2 c2 k2
  have b2 := F2.binds (ps := ["thing"]) fun _ _ _ _ _ _ us hl => match us, hl with | [_], _ => rfl
  have F3 := fun_mk (st := s_raised_to) l3 c3 k3
  have b3 := F3.binds (ps := ["number", "bits"]) fun _ _ _ _ _ _ us hl => match us, hl with | [_, _], _ => rfl
  have F4 := fun_mk (st := s_rounded) l4 c4 k4
  have b4 := F4.binds (ps := ["number", "bits"]) fun _ _ _ _ _ _ us hl => match us, hl with | [_, _], _ => rfl
  have F5 := fun_mk (st := s_l_cell) l5 c5 k5
  have b5 := F5.binds (ps := ["_law_script", "_law_k"]) fun _ _ _ _ _ _ us hl => match us, hl with | [_, _], _ => rfl
  have F6 := fun_mk (st := s_l_box) l6 c6 k6
  have b6 := F6.binds (ps := ["_law_cell_here"]) fun _ _ _ _ _ _ us hl => match us, hl with | [_], _ => rfl
  have F7 := fun_mk (st := s_l_take) l7 c7 k7
  have b7 := F7.binds (ps := ["_law_box_here", "_law_many"]) fun _ _ _ _ _ _ us hl => match us, hl with | [_, _], _ => rfl
  have F8 := fun_mk (st := s_l_number) l8 c8 k8
  have b8 := F8.binds (ps := ["_law_box_here"]) fun _ _ _ _ _ _ us hl => match us, hl with | [_], _ => rfl
  have F9 := fun_mk (st := s_l_bits) l9 c9 k9
  have b9 := F9.binds (ps := ["_law_box_here"]) fun _ _ _ _ _ _ us hl => match us, hl with | [_], _ => rfl
  have F10 := fun_mk (st := s_l_due) l10 c10 k10
  have b10 := F10.binds (ps := ["_law_number_here", "_law_bits_here"]) fun _ _ _ _ _ _ us hl => match us, hl with | [_, _], _ => rfl
  have F11 := fun_mk (st := s_l_refused) l11 c11 k11
  have b11 := F11.binds (ps := ["_law_number_here", "_law_bits_here"]) fun _ _ _ _ _ _ us hl => match us, hl with | [_, _], _ => rfl
  have F12 := fun_mk (st := s_l_right) l12 c12 k12
  have b12 := F12.binds (ps := ["_law_number_here", "_law_bits_here"]) fun _ _ _ _ _ _ us hl => match us, hl with | [_, _], _ => rfl
  have F13 := fun_mk (st := s_law) l13 c13 k13
  have b13 := F13.binds (ps := ["_law_script"]) fun _ _ _ _ _ _ us hl => match us, hl with | [_], _ => rfl
  let cn : Cn := { ad := fun n => [C0, C1].getD n 0, fl := fun n => ["found", "found"].getD n "", bs := CB }
  have hx0 : ExcAll K C0 "found" := ⟨⟨⟨_, _, _, _, _, _, _, _, _, _, _, _, _, _, _, xl0, xm0⟩, xs0, xe0, xt0, xk0⟩, ⟨xga0, xgg0, xe0, xhd0⟩, xfo0, by obtain ⟨_, hc, _⟩ := PySem.W.any_some xhd0; rw [hc]; rfl, xat0, xmo0, oN, oT⟩
  have hF0 := fun_mk (st := s_NoNumber) xli0 xci0 xki0
  have hb0 := hF0.binds (ps := ["self", "found"]) fun _ _ _ _ _ _ us hl => match us, hl with | [_, _], _ => rfl
  have hx1 : ExcAll K C1 "found" := ⟨⟨⟨_, _, _, _, _, _, _, _, _, _, _, _, _, _, _, xl1, xm1⟩, xs1, xe1, xt1, xk1⟩, ⟨xga1, xgg1, xe1, xhd1⟩, xfo1, by obtain ⟨_, hc, _⟩ := PySem.W.any_some xhd1; rw [hc]; rfl, xat1, xmo1, oN, oT⟩
  have hF1 := fun_mk (st := s_NoBits) xli1 xci1 xki1
  have hb1 := hF1.binds (ps := ["self", "found"]) fun _ _ _ _ _ _ us hl => match us, hl with | [_, _], _ => rfl
  have hxf : XF K cn := { all0 := hx0, fl0 := rfl, ex0 := PySem.W.exm_ref bB4 bB5 bB6 xsb0, all1 := hx1, fl1 := rfl, ex1 := PySem.W.exm_ref bB4 bB5 bB6 xsb1, kit0_0 := xq0_0, kit0_1 := xq0_1, kit1_0 := xq1_0, kit1_1 := xq1_1 }
  let T : Txt K mg cn := { xf := hxf, xb := ⟨PySem.W.mg_of X G aB, ⟨bB1, bB2⟩, bB3⟩, fi_NoNumber := _, fd_NoNumber := _, x_NoNumber := ⟨hx0, PySem.W.mg_of X G xa0, xi0, xti0, hF0, hb0⟩, fi_NoBits := _, fd_NoBits := _, x_NoBits := ⟨hx1, PySem.W.mg_of X G xa1, xi1, xti1, hF1, hb1⟩, a_is_whole := _, f_is_whole := _, d_is_whole := ⟨F1, b1, PySem.W.mg_of X G a1⟩, a_need_bits := _, f_need_bits := _, d_need_bits := ⟨F2, b2, PySem.W.mg_of X G a2⟩, a_raised_to := _, f_raised_to := _, d_raised_to := ⟨F3, b3, PySem.W.mg_of X G a3⟩, a_rounded := _, f_rounded := _, d_rounded := ⟨F4, b4, PySem.W.mg_of X G a4⟩, a_l_cell := _, f_l_cell := _, d_l_cell := ⟨F5, b5, PySem.W.mg_of X G a5⟩, a_l_box := _, f_l_box := _, d_l_box := ⟨F6, b6, PySem.W.mg_of X G a6⟩, a_l_take := _, f_l_take := _, d_l_take := ⟨F7, b7, PySem.W.mg_of X G a7⟩, a_l_number := _, f_l_number := _, d_l_number := ⟨F8, b8, PySem.W.mg_of X G a8⟩, a_l_bits := _, f_l_bits := _, d_l_bits := ⟨F9, b9, PySem.W.mg_of X G a9⟩, a_l_due := _, f_l_due := _, d_l_due := ⟨F10, b10, PySem.W.mg_of X G a10⟩, a_l_refused := _, f_l_refused := _, d_l_refused := ⟨F11, b11, PySem.W.mg_of X G a11⟩, a_l_right := _, f_l_right := _, d_l_right := ⟨F12, b12, PySem.W.mg_of X G a12⟩, a_law := _, f_law := _, d_law := ⟨F13, b13, PySem.W.mg_of X G a13⟩, n_bool := PySem.W.mg_none_of X G z_bool, n_int := PySem.W.mg_none_of X G z_int, n_isinstance := PySem.W.mg_none_of X G z_isinstance, n_len := PySem.W.mg_none_of X G z_len, n_max := PySem.W.mg_none_of X G z_max, n_min := PySem.W.mg_none_of X G z_min, n_range := PySem.W.mg_none_of X G z_range, n_repr := PySem.W.mg_none_of X G z_repr, c_MOST_BITS := ⟨_, PySem.W.mg_of X G v_MOST_BITS⟩, c_MOST_NUMBER := ⟨_, PySem.W.mg_of X G v_MOST_NUMBER⟩ }
  exact ⟨PySem.W.fnOf "law" "law" (defArgs s_law) (defBody s_law) (defScope s_law) .none kV13 dc13 pm13 an13 cd13 ct13, fun s v => .of_eq rfl, fun base _ _ => ok_all T⟩

end Lw
open PySem PySem.W PyProof.Rows
set_option maxHeartbeats 0 in
theorem PySem.Challenge.cw_farmarks_k55_rounded_holds : PySem.Challenge.rw_farmarks_k55_rounded.Holds := by
  w_on; o_law; k_head; (case hw => w_witness2)
  k_fill
  refine DL.walk_ofG (l := PySem.Challenge.rw_farmarks_k55_rounded) (n := 63) (k := 6) (x := "_law_script") (CX := fun w => L2.CX PySem.Challenge.rw_farmarks_k55_rounded.prog w) (sp := fun w => DL.lift _ Lw.S_law) (by decide +kernel) rfl (by decide) rfl ⟨rfl, by decide, by decide⟩ (fun w h Y => PySem.W.kIn_of Y) ?F (fun _ H a ns hl hb _ hS => Lw.law_in hl hb hS) (fun _ _ _ _ _ h => by obtain ⟨_, _, _, _, _, _, _, _, _, _, _, _, z⟩ := h; exact z.elim)
  case F =>
    intro w mg fa h KX G hmg
    refine' Lw.all_mk KX G hmg ?a1 ?l1 ?c1 ?k1 ?a2 ?l2 ?c2 ?k2 ?a3 ?l3 ?c3 ?k3 ?a4 ?l4 ?c4 ?k4 ?a5 ?l5 ?c5 ?k5 ?a6 ?l6 ?c6 ?k6 ?a7 ?l7 ?c7 ?k7 ?a8 ?l8 ?c8 ?k8 ?a9 ?l9 ?c9 ?k9 ?a10 ?l10 ?c10 ?k10 ?a11 ?l11 ?c11 ?k11 ?a12 ?l12 ?c12 ?k12 ?a13 ?l13 ?c13 ?k13 ?aB ?bB1 ?bB2 ?bB3 ?bB4 ?bB5 ?bB6 ?oN ?oT ?xa0 ?xl0 ?xm0 ?xs0 ?xe0 ?xt0 ?xk0 ?xga0 ?xgg0 ?xhd0 ?xfo0 ?xat0 ?xmo0 ?xi0 ?xti0 ?xli0 ?xci0 ?xki0 ?xsb0 ?xa1 ?xl1 ?xm1 ?xs1 ?xe1 ?xt1 ?xk1 ?xga1 ?xgg1 ?xhd1 ?xfo1 ?xat1 ?xmo1 ?xi1 ?xti1 ?xli1 ?xci1 ?xki1 ?xsb1 ?xq0_0 ?xq0_1 ?xq1_0 ?xq1_1 ?z_bool ?z_int ?z_isinstance ?z_len ?z_max ?z_min ?z_range ?z_repr ?v_MOST_BITS ?v_MOST_NUMBER
    (case a1 => k_is); (case l1 => k_is); (case c1 => k_is); (case k1 => k_is); (case a2 => k_is); (case l2 => k_is); (case c2 => k_is); (case k2 => k_is); (case a3 => k_is); (case l3 => k_is); (case c3 => k_is); (case k3 => k_is); (case a4 => k_is); (case l4 => k_is); (case c4 => k_is); (case k4 => k_is); (case a5 => k_is); (case l5 => k_is); (case c5 => k_is); (case k5 => k_is); (case a6 => k_is); (case l6 => k_is); (case c6 => k_is); (case k6 => k_is); (case a7 => k_is); (case l7 => k_is); (case c7 => k_is); (case k7 => k_is); (case a8 => k_is); (case l8 => k_is); (case c8 => k_is); (case k8 => k_is); (case a9 => k_is); (case l9 => k_is); (case c9 => k_is); (case k9 => k_is); (case a10 => k_is); (case l10 => k_is); (case c10 => k_is); (case k10 => k_is); (case a11 => k_is); (case l11 => k_is); (case c11 => k_is); (case k11 => k_is); (case a12 => k_is); (case l12 => k_is); (case c12 => k_is); (case k12 => k_is); (case a13 => k_is); (case l13 => k_is); (case c13 => k_is); (case k13 => k_is); (case aB => k_is); (case bB1 => k_is); (case bB2 => k_is); (case bB3 => k_is); (case bB4 => k_is); (case bB5 => k_is); (case bB6 => k_is); (case oN => k_is); (case oT => k_is); (case xa0 => k_is); (case xl0 => k_is); (case xm0 => rfl); (case xs0 => k_is); (case xe0 => k_is); (case xt0 => k_is); (case xk0 => k_is); (case xga0 => k_is); (case xgg0 => k_is); (case xhd0 => k_is); (case xfo0 => k_is); (case xat0 => k_is); (case xmo0 => k_is); (case xi0 => k_is); (case xti0 => k_is); (case xli0 => k_is); (case xci0 => k_is); (case xki0 => k_is); (case xsb0 => k_is); (case xa1 => k_is); (case xl1 => k_is); (case xm1 => rfl); (case xs1 => k_is); (case xe1 => k_is); (case xt1 => k_is); (case xk1 => k_is); (case xga1 => k_is); (case xgg1 => k_is); (case xhd1 => k_is); (case xfo1 => k_is); (case xat1 => k_is); (case xmo1 => k_is); (case xi1 => k_is); (case xti1 => k_is); (case xli1 => k_is); (case xci1 => k_is); (case xki1 => k_is); (case xsb1 => k_is); (case xq0_0 => kit_is); (case xq0_1 => kit_is); (case xq1_0 => kit_is); (case xq1_1 => kit_is); (case z_bool => k_is); (case z_int => k_is); (case z_isinstance => k_is); (case z_len => k_is); (case z_max => k_is); (case z_min => k_is); (case z_range => k_is); (case z_repr => k_is); (case v_MOST_BITS => k_is); (case v_MOST_NUMBER => k_is)
