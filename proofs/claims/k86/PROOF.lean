import PyProof.Rows.All
import Wide.All
import OpenK.AllK
import Wide.FinOn
import HandS.ForMost
import HandS.Evl
import HandS.EndBits
import HandS.Wide
import HandS.IsInst
import HandS.Flow
import HandS.Walk
import HandS.WideBits
import HandS.Style
import HandS.StrMore
import HandS.ExcInit
import HandS.WordsExc
import HandS.ClsMeth
import HandS.ExcField
import HandS.ExcIs
import HandS.ExcOwn
import KE.KExcIs
import KE.RegKIsAll
import HandS.TryMany
import HandS.TryOnly
import HandS.Dict
import HandS.Small
import HandS.More
import HandS.SortInts
import HandS.SortRule
import HandS.Conv
import HandS.DictTup
import KE.KDictSum
import KE.KDictCopyH
import PyProof.DictUpdate
import HandS.SortKw
import KE.KMinKey
import PySem.Challenge.RW_farmarks_k86_kinds_and_least_signs
set_option Elab.async false
set_option linter.all false
set_option maxRecDepth 100000
set_option maxHeartbeats 4000000
/-! DL: values as data, slots that own, and the words WE, WT, WS over the readings. -/
namespace DL
open PySem PySem.Spec PyProof.Rows L2
open Evl (Ex)
abbrev St := L2.St

inductive D where
  | non | bl (b : Bool) | int (i : Int) | str (x : Str) | ty (n : String) | ptr (a : Addr)
  | lst (xs : List D) | ro (xs : List D) | tup (xs : List D) | dct (kvs : List (Key × D)) | dcT (kvs : List (List Key × D)) | obj (C : Addr) (fs : List (Str × D))

section
variable (K : PySem.W.Frag) (G : Hp)
mutual
def Rep : D → V → Prop
  | .non, v => v = .non
  | .bl b, v => v = .bl b
  | .int i, v => v = .int i
  | .str x, v => v = .str x
  | .ty n, v => v = .ty n
  | .ptr a, v => v = .ref a
  | .lst ds, v => ∃ a xs, v = .ref a ∧ G a = some (.lst xs) ∧ Reps ds xs
  | .ro ds, v => ∃ a xs, v = .ref a ∧ SqL K G a xs ∧ Reps ds xs
  | .tup ds, v => ∃ a xs, v = .ref a ∧ G a = some (.tup xs) ∧ Reps ds xs
  | .dct kds, v => ∃ a kvs, v = .ref a ∧ Rd G a (.dK kvs) ∧ RepK kds kvs
  | .dcT kds, v => ∃ a kvs, v = .ref a ∧ Rd G a (.dT kvs) ∧ RepT kds kvs
  | .obj C fs, v => ∃ a dx fvs, v = .ref a ∧ G a = some (.ins C dx fvs) ∧ RepF fs fvs
def Reps : List D → List V → Prop
  | [], vs => vs = []
  | d :: ds, vs => ∃ v vr, vs = v :: vr ∧ Rep d v ∧ Reps ds vr
def RepK : List (Key × D) → List (Key × V) → Prop
  | [], vs => vs = []
  | (k, d) :: ds, vs => ∃ v vr, vs = (k, v) :: vr ∧ Rep d v ∧ RepK ds vr
def RepT : List (List Key × D) → List (List Key × V) → Prop
  | [], vs => vs = []
  | (k, d) :: ds, vs => ∃ v vr, vs = (k, v) :: vr ∧ Rep d v ∧ RepT ds vr
def RepF : List (Str × D) → List (Str × V) → Prop
  | [], vs => vs = []
  | (k, d) :: ds, vs => ∃ v vr, vs = (k, v) :: vr ∧ Rep d v ∧ RepF ds vr
end
end
section
variable {K : PySem.W.Frag} {G G' : Hp}
mutual
theorem Rep.mono (e : Ex G G') : ∀ {d : D} {v : V}, Rep K G d v → Rep K G' d v
  | .non, _, h => h
  | .bl _, _, h => h
  | .int _, _, h => h
  | .str _, _, h => h
  | .ty _, _, h => h
  | .ptr _, _, h => h
  | .lst ds, v, h => by
    unfold Rep at h ⊢
    obtain ⟨a, xs, e1, h1, h2⟩ := h
    exact ⟨a, xs, e1, e _ _ h1, Reps.mono e h2⟩
  | .ro ds, v, h => by
    unfold Rep at h ⊢
    obtain ⟨a, xs, e1, h1, h2⟩ := h
    exact ⟨a, xs, e1, Evl.ex_l e h1, Reps.mono e h2⟩
  | .tup ds, v, h => by
    unfold Rep at h ⊢
    obtain ⟨a, xs, e1, h1, h2⟩ := h
    exact ⟨a, xs, e1, e _ _ h1, Reps.mono e h2⟩
  | .dct ds, v, h => by
    unfold Rep at h ⊢
    obtain ⟨a, xs, e1, h1, h2⟩ := h
    exact ⟨a, xs, e1, Evl.ex_rd e h1, RepK.mono e h2⟩
  | .dcT ds, v, h => by
    unfold Rep at h ⊢
    obtain ⟨a, xs, e1, h1, h2⟩ := h
    exact ⟨a, xs, e1, Evl.ex_rd e h1, RepT.mono e h2⟩
  | .obj C fs, v, h => by
    unfold Rep at h ⊢
    obtain ⟨a, dx, xs, e1, h1, h2⟩ := h
    exact ⟨a, dx, xs, e1, e _ _ h1, RepF.mono e h2⟩
theorem Reps.mono (e : Ex G G') : ∀ {ds : List D} {vs : List V}, Reps K G ds vs → Reps K G' ds vs
  | [], _, h => h
  | d :: ds, vs, h => by
    unfold Reps at h ⊢
    obtain ⟨v, vr, e1, h1, h2⟩ := h
    exact ⟨v, vr, e1, Rep.mono e h1, Reps.mono e h2⟩
theorem RepK.mono (e : Ex G G') : ∀ {ds : List (Key × D)} {vs : List (Key × V)}, RepK K G ds vs → RepK K G' ds vs
  | [], _, h => h
  | (k, d) :: ds, vs, h => by
    unfold RepK at h ⊢
    obtain ⟨v, vr, e1, h1, h2⟩ := h
    exact ⟨v, vr, e1, Rep.mono e h1, RepK.mono e h2⟩
theorem RepT.mono (e : Ex G G') : ∀ {ds : List (List Key × D)} {vs : List (List Key × V)}, RepT K G ds vs → RepT K G' ds vs
  | [], _, h => h
  | (k, d) :: ds, vs, h => by
    unfold RepT at h ⊢
    obtain ⟨v, vr, e1, h1, h2⟩ := h
    exact ⟨v, vr, e1, Rep.mono e h1, RepT.mono e h2⟩
theorem RepF.mono (e : Ex G G') : ∀ {ds : List (Str × D)} {vs : List (Str × V)}, RepF K G ds vs → RepF K G' ds vs
  | [], _, h => h
  | (k, d) :: ds, vs, h => by
    unfold RepF at h ⊢
    obtain ⟨v, vr, e1, h1, h2⟩ := h
    exact ⟨v, vr, e1, Rep.mono e h1, RepF.mono e h2⟩
end
theorem reps_length : ∀ {ds : List D} {vs : List V}, Reps K G ds vs → vs.length = ds.length
  | [], vs, h => by unfold Reps at h; subst h; rfl
  | d :: ds, vs, h => by
    unfold Reps at h
    obtain ⟨v, vr, e1, _, h2⟩ := h
    subst e1
    simp [reps_length h2]
theorem reps_get : ∀ {ds : List D} {vs : List V} {i : Nat} {x : D}, Reps K G ds vs → ds[i]? = some x → ∃ v, vs[i]? = some v ∧ Rep K G x v
  | [], vs, i, x, h, e => by simp at e
  | d :: ds, vs, 0, x, h, e => by
    unfold Reps at h
    obtain ⟨v, vr, e1, h1, _⟩ := h
    subst e1
    have e2 : d = x := by simpa using e
    subst e2
    exact ⟨v, rfl, h1⟩
  | d :: ds, vs, i + 1, x, h, e => by
    unfold Reps at h
    obtain ⟨v, vr, e1, _, h2⟩ := h
    subst e1
    obtain ⟨w, h3, h4⟩ := reps_get (i := i) h2 (by simpa using e)
    exact ⟨w, by simpa using h3, h4⟩
theorem reps_getV {ds : List D} {vs : List V} {i : Nat} {v : V} (h : Reps K G ds vs) (e : vs[i]? = some v) : ∃ x, ds[i]? = some x ∧ Rep K G x v := by
  have hl := reps_length h
  have hi : i < vs.length := (List.getElem?_eq_some_iff.mp e).1
  have hd : ds[i]? = some (ds[i]'(by omega)) := List.getElem?_eq_getElem (by omega)
  obtain ⟨w, h1, h2⟩ := reps_get h hd
  rw [e] at h1
  cases h1
  exact ⟨_, hd, h2⟩
theorem reps_append : ∀ {ds es : List D} {vs ws : List V}, Reps K G ds vs → Reps K G es ws → Reps K G (ds ++ es) (vs ++ ws)
  | [], es, vs, ws, h, h' => by unfold Reps at h; subst h; exact h'
  | d :: ds, es, vs, ws, h, h' => by
    unfold Reps at h
    obtain ⟨v, vr, e1, h1, h2⟩ := h
    subst e1
    show Reps K G (d :: (ds ++ es)) (v :: (vr ++ ws))
    unfold Reps
    exact ⟨v, _, rfl, h1, reps_append h2 h'⟩
theorem reps_take : ∀ {ds : List D} {vs : List V} (n : Nat), Reps K G ds vs → Reps K G (ds.take n) (vs.take n)
  | ds, vs, 0, h => by
    show Reps K G [] _
    unfold Reps
    simp
  | [], vs, n + 1, h => by unfold Reps at h; subst h; show Reps K G [] []; unfold Reps; rfl
  | d :: ds, vs, n + 1, h => by
    unfold Reps at h
    obtain ⟨v, vr, e1, h1, h2⟩ := h
    subst e1
    show Reps K G (d :: ds.take n) (v :: vr.take n)
    unfold Reps
    exact ⟨v, _, rfl, h1, reps_take n h2⟩
theorem reps_drop : ∀ {ds : List D} {vs : List V} (n : Nat), Reps K G ds vs → Reps K G (ds.drop n) (vs.drop n)
  | ds, vs, 0, h => h
  | [], vs, n + 1, h => by unfold Reps at h; subst h; show Reps K G [] []; unfold Reps; rfl
  | d :: ds, vs, n + 1, h => by
    unfold Reps at h
    obtain ⟨v, vr, e1, h1, h2⟩ := h
    subst e1
    exact reps_drop n h2
theorem reps_set : ∀ {ds : List D} {vs : List V} {x : D} {v : V} (i : Nat), Reps K G ds vs → Rep K G x v → Reps K G (ds.set i x) (vs.set i v)
  | [], vs, x, v, i, h, _ => by unfold Reps at h; subst h; show Reps K G [] []; unfold Reps; rfl
  | d :: ds, vs, x, v, 0, h, hx => by
    unfold Reps at h
    obtain ⟨w, vr, e1, h1, h2⟩ := h
    subst e1
    show Reps K G (x :: ds) (v :: vr)
    unfold Reps
    exact ⟨v, _, rfl, hx, h2⟩
  | d :: ds, vs, x, v, i + 1, h, hx => by
    unfold Reps at h
    obtain ⟨w, vr, e1, h1, h2⟩ := h
    subst e1
    show Reps K G (d :: ds.set i x) (w :: vr.set i v)
    unfold Reps
    exact ⟨w, _, rfl, h1, reps_set i h2 hx⟩
theorem reps_one {x : D} {v : V} (h : Rep K G x v) : Reps K G [x] [v] := by
  unfold Reps
  exact ⟨v, [], rfl, h, by unfold Reps; rfl⟩
theorem reps_nil : Reps K G [] [] := by unfold Reps; rfl
theorem reps_cons {x : D} {v : V} {ds : List D} {vs : List V} (h : Rep K G x v) (h' : Reps K G ds vs) : Reps K G (x :: ds) (v :: vs) := by
  unfold Reps
  exact ⟨v, vs, rfl, h, h'⟩
theorem reps_rev : ∀ {ds : List D} {vs : List V}, Reps K G ds vs → Reps K G ds.reverse vs.reverse
  | [], vs, h => by unfold Reps at h; subst h; exact reps_nil
  | d :: ds, vs, h => by
    unfold Reps at h
    obtain ⟨w, vr, e1, h1, h2⟩ := h
    subst e1
    rw [List.reverse_cons, List.reverse_cons]
    exact reps_append (reps_rev h2) (reps_one h1)
end

/-! ### slots -/
/-- deep: an own object, and own objects gs that are reached through its content -/
inductive Sl where
  | no | d (x : D) | own (a : Addr) (x : D) | deep (a : Addr) (x : D) (gs : List (Addr × D))
/-- what an expression hands on: data, a new object of one's own, a slot's own object -/
inductive R where
  | d (x : D) | own (a : Addr) (x : D) | deep (a : Addr) (x : D) (gs : List (Addr × D)) | bor (i : Nat) (a : Addr)
def owned : List Sl → List Addr
  | [] => []
  | .own a _ :: r => a :: owned r
  | .deep a _ gs :: r => a :: (gs.map Prod.fst ++ owned r)
  | _ :: r => owned r
/-- a slot's own addresses -/
def ads : Sl → List Addr
  | .own a _ => [a]
  | .deep a _ gs => a :: gs.map Prod.fst
  | _ => []
theorem owned_cons (s : Sl) (δ : List Sl) : owned (s :: δ) = ads s ++ owned δ := by cases s <;> rfl
def OwnR (K : PySem.W.Frag) (G H : Hp) (a : Addr) : D → Prop
  | .lst ds => ∃ xs, H a = some (.lst xs) ∧ Reps K G ds xs
  | .dct ds => ∃ xs, H a = some (.dK xs) ∧ RepK K G ds xs
  | .dcT ds => ∃ xs, H a = some (.dT xs) ∧ RepT K G ds xs
  | .obj C fs => ∃ dx xs, H a = some (.ins C dx xs) ∧ RepF K G fs xs
  | _ => False
def OwnG (K : PySem.W.Frag) (G H : Hp) (gs : List (Addr × D)) : Prop := ∀ q ∈ gs, OwnR K G H q.1 q.2
def SlR (K : PySem.W.Frag) (G H : Hp) : Sl → Option V → Prop
  | .no, _ => True
  | .d x, ov => ∃ v, ov = some v ∧ Rep K G x v
  | .own a x, ov => ov = some (.ref a) ∧ OwnR K G H a x
  | .deep a x gs, ov => ov = some (.ref a) ∧ OwnR K G H a x ∧ OwnG K G H gs
def SlsR (K : PySem.W.Frag) (G H : Hp) : List Sl → St → Prop
  | [], σ => σ = []
  | s :: δ, σ => ∃ ov σr, σ = ov :: σr ∧ SlR K G H s ov ∧ SlsR K G H δ σr
/-- one of them knows nothing of the address, or a tuple stands there: it never changes -/
abbrev AptV (x y : Option HO) : Prop := x = none ∨ y = none ∨ ∃ xs, y = some (.tup xs)
structure Frame (K : PySem.W.Frag) (B G H : Hp) (σ : St) (δ : List Sl) : Prop where
  exB : Ex B H
  exG : Ex G H
  dis : ∀ b, AptV (B b) (G b)
  sl : SlsR K G H δ σ
  own : ∀ a ∈ owned δ, B a = none ∧ G a = none
  nd : (owned δ).Nodup
/-- the data that stands behind a thing -/
def view (δ : List Sl) : R → Option D
  | .d x => some x
  | .own _ x => some x
  | .deep _ _ _ => none
  | .bor i a => match δ[i]? with
    | some (.own b x) => if a = b then some x else none
    | some (.deep b x gs) => if a = b then some x else gs.lookup a
    | _ => none
def RV (K : PySem.W.Frag) (B G H : Hp) (δ : List Sl) : R → V → Prop
  | .d x, v => Rep K G x v
  | .own a x, v => v = .ref a ∧ OwnR K G H a x ∧ B a = none ∧ G a = none ∧ a ∉ owned δ
  | .deep a x gs, v => v = .ref a ∧ OwnR K G H a x ∧ OwnG K G H gs ∧ (∀ b ∈ a :: gs.map Prod.fst, B b = none ∧ G b = none ∧ b ∉ owned δ) ∧ (a :: gs.map Prod.fst).Nodup
  | .bor i a, v => v = .ref a ∧ ∃ x, view δ (.bor i a) = some x

section
variable {K : PySem.W.Frag} {B G G' H H' : Hp} {σ : St} {δ : List Sl}
theorem OwnR.mono {a : Addr} {x : D} (eG : Ex G G') (h : OwnR K G H a x) (hH : H' a = H a) : OwnR K G' H' a x := by
  cases x with
  | lst ds => obtain ⟨xs, h1, h2⟩ := h; exact ⟨xs, hH.trans h1, h2.mono eG⟩
  | dct ds => obtain ⟨xs, h1, h2⟩ := h; exact ⟨xs, hH.trans h1, h2.mono eG⟩
  | dcT ds => obtain ⟨xs, h1, h2⟩ := h; exact ⟨xs, hH.trans h1, h2.mono eG⟩
  | obj C ds => obtain ⟨dx, xs, h1, h2⟩ := h; exact ⟨dx, xs, hH.trans h1, h2.mono eG⟩
  | _ => exact h.elim
theorem OwnR.there {a : Addr} {x : D} (h : OwnR K G H a x) : ∃ o, H a = some o := by
  cases x with
  | lst ds => obtain ⟨xs, h1, h2⟩ := h; exact ⟨_, h1⟩
  | dct ds => obtain ⟨xs, h1, h2⟩ := h; exact ⟨_, h1⟩
  | dcT ds => obtain ⟨xs, h1, h2⟩ := h; exact ⟨_, h1⟩
  | obj C ds => obtain ⟨dx, xs, h1, h2⟩ := h; exact ⟨_, h1⟩
  | _ => exact h.elim
theorem OwnR.ex {a : Addr} {x : D} (eG : Ex G G') (eH : Ex H H') (h : OwnR K G H a x) : OwnR K G' H' a x := by
  obtain ⟨o, ho⟩ := h.there
  exact h.mono eG ((eH _ _ ho).trans ho.symm)
theorem OwnG.mono {gs : List (Addr × D)} (eG : Ex G G') (h : OwnG K G H gs) (hH : ∀ b ∈ gs.map Prod.fst, H' b = H b) : OwnG K G' H' gs :=
  fun q hq => (h q hq).mono eG (hH _ (List.mem_map_of_mem hq))
theorem OwnG.there {gs : List (Addr × D)} {b : Addr} (h : OwnG K G H gs) (hb : b ∈ gs.map Prod.fst) : ∃ o, H b = some o := by
  obtain ⟨q, hq, e⟩ := List.mem_map.mp hb
  subst e
  exact (h q hq).there
theorem OwnG.ex {gs : List (Addr × D)} (eG : Ex G G') (eH : Ex H H') (h : OwnG K G H gs) : OwnG K G' H' gs := fun q hq => (h q hq).ex eG eH
theorem OwnG.get {gs : List (Addr × D)} {b : Addr} {y : D} (h : OwnG K G H gs) (e : gs.lookup b = some y) : OwnR K G H b y := by
  induction gs with
  | nil => simp at e
  | cons q gs ih =>
    obtain ⟨c, z⟩ := q
    rw [List.lookup_cons] at e
    by_cases hc : b = c
    · subst hc
      simp at e
      subst e
      exact h _ List.mem_cons_self
    · have hc' : (b == c) = false := by simp [hc]
      rw [hc'] at e
      exact ih (fun q hq => h q (List.mem_cons_of_mem _ hq)) e
theorem SlR.ex {s : Sl} {ov : Option V} (eG : Ex G G') (eH : ∀ a ∈ ads s, H' a = H a) (h : SlR K G H s ov) : SlR K G' H' s ov := by
  cases s with
  | no => trivial
  | d x => obtain ⟨v, e, r⟩ := h; exact ⟨v, e, r.mono eG⟩
  | own a x => obtain ⟨e, r⟩ := h; exact ⟨e, r.mono eG (eH a (List.mem_singleton.mpr rfl))⟩
  | deep a x gs => obtain ⟨e, r, g⟩ := h; exact ⟨e, r.mono eG (eH a List.mem_cons_self), g.mono eG fun b hb => eH b (List.mem_cons_of_mem _ hb)⟩
theorem SlR.there {s : Sl} {ov : Option V} {a : Addr} (h : SlR K G H s ov) (ha : a ∈ ads s) : ∃ o, H a = some o := by
  cases s with
  | no => cases ha
  | d x => cases ha
  | own b x => cases List.mem_singleton.mp ha; exact h.2.there
  | deep b x gs =>
    rcases List.mem_cons.mp ha with q | q
    · subst q; exact h.2.1.there
    · exact h.2.2.there q
theorem SlsR.ex : ∀ {δ : List Sl} {σ : St}, Ex G G' → (∀ a ∈ owned δ, H' a = H a) → SlsR K G H δ σ → SlsR K G' H' δ σ
  | [], σ, _, _, h => h
  | s :: δ, σ, eG, eH, h => by
    obtain ⟨ov, σr, e, h1, h2⟩ := h
    rw [owned_cons] at eH
    exact ⟨ov, σr, e, h1.ex eG fun a ha => eH a (List.mem_append_left _ ha), SlsR.ex eG (fun a ha => eH a (List.mem_append_right _ ha)) h2⟩
theorem SlsR.len : ∀ {δ : List Sl} {σ : St}, SlsR K G H δ σ → σ.length = δ.length
  | [], σ, h => by
    have e : σ = [] := h
    subst e
    rfl
  | s :: δ, σ, h => by
    obtain ⟨ov, σr, e, h1, h2⟩ := h
    subst e
    simp [SlsR.len h2]
theorem SlsR.get : ∀ {δ : List Sl} {σ : St} {i : Nat} {s : Sl}, SlsR K G H δ σ → δ[i]? = some s → ∃ ov, σ[i]? = some ov ∧ SlR K G H s ov
  | [], σ, i, s, h, e => by simp at e
  | t :: δ, σ, 0, s, h, e => by
    obtain ⟨ov, σr, e1, h1, h2⟩ := h
    subst e1
    have e2 : t = s := by simpa using e
    subst e2
    exact ⟨ov, rfl, h1⟩
  | t :: δ, σ, i + 1, s, h, e => by
    obtain ⟨ov, σr, e1, h1, h2⟩ := h
    subst e1
    obtain ⟨w, h3, h4⟩ := SlsR.get (i := i) h2 (by simpa using e)
    exact ⟨w, by simpa using h3, h4⟩
theorem SlsR.set : ∀ {δ : List Sl} {σ : St} {s : Sl} {ov : Option V} (i : Nat), SlsR K G H δ σ → SlR K G H s ov → SlsR K G H (δ.set i s) (σ.set i ov)
  | [], σ, s, ov, i, h, _ => by
    have e : σ = [] := h
    subst e
    exact (rfl : ([] : St) = [])
  | t :: δ, σ, s, ov, 0, h, hs => by
    obtain ⟨w, σr, e1, h1, h2⟩ := h
    subst e1
    exact ⟨ov, σr, rfl, hs, h2⟩
  | t :: δ, σ, s, ov, i + 1, h, hs => by
    obtain ⟨w, σr, e1, h1, h2⟩ := h
    subst e1
    exact ⟨w, _, rfl, h1, SlsR.set i h2 hs⟩
/-- a slot's word alone is changed -/
theorem SlsR.setS : ∀ {δ : List Sl} {σ : St} {s : Sl} {ov : Option V} (i : Nat), SlsR K G H δ σ → (∀ ov, σ[i]? = some ov → SlR K G H s ov) → SlsR K G H (δ.set i s) σ
  | [], σ, s, ov, i, h, _ => h
  | t :: δ, σ, s, ov, 0, h, hs => by
    obtain ⟨w, σr, e1, h1, h2⟩ := h
    subst e1
    exact ⟨w, σr, rfl, hs w rfl, h2⟩
  | t :: δ, σ, s, ov, i + 1, h, hs => by
    obtain ⟨w, σr, e1, h1, h2⟩ := h
    subst e1
    exact ⟨w, _, rfl, h1, SlsR.setS (ov := ov) i h2 fun ov e => hs ov (by simpa using e)⟩
theorem owned_getA : ∀ {δ : List Sl} {i : Nat} {s : Sl} {a : Addr}, δ[i]? = some s → a ∈ ads s → a ∈ owned δ
  | [], i, s, a, e, _ => by simp at e
  | t :: δ, 0, s, a, e, h => by
    have e2 : t = s := by simpa using e
    subst e2
    rw [owned_cons]
    exact List.mem_append_left _ h
  | t :: δ, i + 1, s, a, e, h => by
    rw [owned_cons]
    exact List.mem_append_right _ (owned_getA (δ := δ) (i := i) (by simpa using e) h)
theorem owned_get {δ : List Sl} {i : Nat} {a : Addr} {x : D} (e : δ[i]? = some (.own a x)) : a ∈ owned δ := owned_getA e (List.mem_singleton.mpr rfl)
theorem owned_set_no : ∀ {δ : List Sl} {i : Nat} {s : Sl}, ads s = [] → (owned (δ.set i s)).Sublist (owned δ)
  | [], i, s, _ => List.Sublist.refl _
  | t :: δ, 0, s, h => by
    show (owned (s :: δ)).Sublist _
    rw [owned_cons, owned_cons, h, List.nil_append]
    exact List.sublist_append_right _ _
  | t :: δ, i + 1, s, h => by
    show (owned (t :: δ.set i s)).Sublist _
    rw [owned_cons, owned_cons]
    exact (List.Sublist.refl _).append (owned_set_no (δ := δ) (i := i) h)
theorem owned_set_in : ∀ {δ : List Sl} {i : Nat} {s : Sl} {b : Addr}, b ∈ owned (δ.set i s) → b ∈ ads s ∨ b ∈ owned δ
  | [], i, s, b, h => .inr h
  | t :: δ, 0, s, b, h => by
    have h' : b ∈ owned (s :: δ) := h
    rw [owned_cons] at h' ⊢
    rcases List.mem_append.mp h' with e | e
    · exact .inl e
    · exact .inr (List.mem_append_right _ e)
  | t :: δ, i + 1, s, b, h => by
    have h' : b ∈ owned (t :: δ.set i s) := h
    rw [owned_cons] at h' ⊢
    rcases List.mem_append.mp h' with e | e
    · exact .inr (List.mem_append_left _ e)
    · rcases owned_set_in (δ := δ) (i := i) e with e | e
      · exact .inl e
      · exact .inr (List.mem_append_right _ e)
theorem owned_set_own {δ : List Sl} {i : Nat} {a b : Addr} {x : D} (h : b ∈ owned (δ.set i (.own a x))) : b = a ∨ b ∈ owned δ :=
  (owned_set_in h).imp List.mem_singleton.mp id
theorem nodup_set : ∀ {δ : List Sl} {i : Nat} {s : Sl}, (owned δ).Nodup → (ads s).Nodup → (∀ b ∈ ads s, b ∉ owned δ) → (owned (δ.set i s)).Nodup
  | [], i, s, h, _, _ => h
  | t :: δ, 0, s, h, hs, hn => by
    show (owned (s :: δ)).Nodup
    rw [owned_cons] at h ⊢
    rw [owned_cons] at hn
    exact List.nodup_append.mpr ⟨hs, (List.nodup_append.mp h).2.1, fun a ha b hb e => hn a ha (by rw [e]; exact List.mem_append_right _ hb)⟩
  | t :: δ, i + 1, s, h, hs, hn => by
    show (owned (t :: δ.set i s)).Nodup
    rw [owned_cons] at h ⊢
    rw [owned_cons] at hn
    have h' := List.nodup_append.mp h
    refine List.nodup_append.mpr ⟨h'.1, nodup_set (δ := δ) (i := i) h'.2.1 hs fun b hb z => hn b hb (List.mem_append_right _ z), fun a ha b hb e => ?_⟩
    rcases owned_set_in hb with q | q
    · exact hn b q (by rw [← e]; exact List.mem_append_left _ ha)
    · exact h'.2.2 a ha b q e
theorem nodup_set_own {δ : List Sl} {i : Nat} {a : Addr} {x : D} (h : (owned δ).Nodup) (hn : a ∉ owned δ) : (owned (δ.set i (.own a x))).Nodup :=
  nodup_set h (show [a].Nodup by simp) fun b hb => by rw [List.mem_singleton.mp hb]; exact hn
/-- the owned of a list where an owned object's content alone is told otherwise -/
theorem owned_set_sameA : ∀ {δ : List Sl} {i : Nat} {s t : Sl}, δ[i]? = some s → ads t = ads s → owned (δ.set i t) = owned δ
  | [], i, s, t, h, _ => by simp at h
  | u :: δ, 0, s, t, h, e => by
    have e2 : u = s := by simpa using h
    subst e2
    show owned (t :: δ) = _
    rw [owned_cons, owned_cons, e]
  | u :: δ, i + 1, s, t, h, e => by
    show owned (u :: δ.set i t) = _
    rw [owned_cons, owned_cons, owned_set_sameA (δ := δ) (i := i) (by simpa using h) e]
theorem owned_set_same {δ : List Sl} {i : Nat} {a : Addr} {x y : D} (h : δ[i]? = some (.own a x)) : owned (δ.set i (.own a y)) = owned δ := owned_set_sameA h rfl
theorem owned_append : ∀ {δ ε : List Sl}, owned (δ ++ ε) = owned δ ++ owned ε
  | [], ε => rfl
  | s :: δ, ε => by
    show owned (s :: (δ ++ ε)) = _
    rw [owned_cons, owned_cons, owned_append (δ := δ) (ε := ε), List.append_assoc]
theorem owned_no (n : Nat) : owned (List.replicate n .no) = [] := by
  induction n with
  | zero => rfl
  | succ n ih => exact ih
theorem SlsR.append : ∀ {δ ε : List Sl} {σ τ : St}, SlsR K G H δ σ → SlsR K G H ε τ → SlsR K G H (δ ++ ε) (σ ++ τ)
  | [], ε, σ, τ, h, h' => by
    have e : σ = [] := h
    subst e
    exact h'
  | s :: δ, ε, σ, τ, h, h' => by
    obtain ⟨ov, σr, e, h1, h2⟩ := h
    subst e
    exact ⟨ov, _, rfl, h1, SlsR.append h2 h'⟩
theorem SlsR.nos : ∀ (σ : St), SlsR K G H (List.replicate σ.length .no) σ
  | [] => rfl
  | ov :: σ => ⟨ov, σ, rfl, trivial, SlsR.nos σ⟩
/-! Frame's turns -/
theorem Frame.there (F : Frame K B G H σ δ) {a : Addr} (ha : a ∈ owned δ) : ∃ o, H a = some o := by
  have there : ∀ {δ : List Sl} {σ : St}, SlsR K G H δ σ → a ∈ owned δ → ∃ o, H a = some o := by
    intro δ
    induction δ with
    | nil => intro σ _ z; cases z
    | cons s δ ih =>
      intro σ h z
      obtain ⟨ov, σr, e, h1, h2⟩ := h
      rw [owned_cons] at z
      rcases List.mem_append.mp z with q | q
      · exact h1.there q
      · exact ih h2 q
  exact there F.sl ha
theorem Frame.ex (F : Frame K B G H σ δ) (e : Ex H H') : Frame K B G H' σ δ := by
  refine ⟨F.exB.trans e, F.exG.trans e, F.dis, F.sl.ex (Ex.refl G) (fun a ha => ?_), F.own, F.nd⟩
  obtain ⟨o, ho⟩ := F.there ha
  exact (e _ _ ho).trans ho.symm
theorem Frame.disN (F : Frame K B G H σ δ) {b : Addr} {o : HO} (h : B b = some o) (n : ∀ xs, o ≠ .tup xs) : G b = none := by
  rcases F.dis b with q | q | ⟨xs, q⟩
  · rw [h] at q; cases q
  · exact q
  · have h1 := F.exB b o h
    have h2 := F.exG b _ q
    rw [h1] at h2
    cases h2
    exact absurd rfl (n xs)
theorem OwnR.obj {a : Addr} {x : D} (h : OwnR K G H a x) : ∃ o, H a = some o ∧ ∀ xs, o ≠ .tup xs := by
  cases x with
  | lst ds => obtain ⟨xs, h1, h2⟩ := h; exact ⟨_, h1, fun _ z => nomatch z⟩
  | dct ds => obtain ⟨xs, h1, h2⟩ := h; exact ⟨_, h1, fun _ z => nomatch z⟩
  | dcT ds => obtain ⟨xs, h1, h2⟩ := h; exact ⟨_, h1, fun _ z => nomatch z⟩
  | obj C ds => obtain ⟨dx, xs, h1, h2⟩ := h; exact ⟨_, h1, fun _ z => nomatch z⟩
  | _ => exact h.elim
theorem SlR.obj {s : Sl} {ov : Option V} {a : Addr} (h : SlR K G H s ov) (ha : a ∈ ads s) : ∃ o, H a = some o ∧ ∀ xs, o ≠ .tup xs := by
  cases s with
  | no => cases ha
  | d x => cases ha
  | own b x => cases List.mem_singleton.mp ha; exact h.2.obj
  | deep b x gs =>
    rcases List.mem_cons.mp ha with q | q
    · subst q; exact h.2.1.obj
    · obtain ⟨w, hw, e⟩ := List.mem_map.mp q
      subst e
      exact (h.2.2 w hw).obj
theorem Frame.obj (F : Frame K B G H σ δ) {a : Addr} (ha : a ∈ owned δ) : ∃ o, H a = some o ∧ ∀ xs, o ≠ .tup xs := by
  have there : ∀ {δ : List Sl} {σ : St}, SlsR K G H δ σ → a ∈ owned δ → ∃ o, H a = some o ∧ ∀ xs, o ≠ .tup xs := by
    intro δ
    induction δ with
    | nil => intro σ _ z; cases z
    | cons s δ ih =>
      intro σ h z
      obtain ⟨ov, σr, e, h1, h2⟩ := h
      rw [owned_cons] at z
      rcases List.mem_append.mp z with q | q
      · exact h1.obj q
      · exact ih h2 q
  exact there F.sl ha
/-- frozen things more -/
theorem Frame.more (F : Frame K B G H σ δ) (eG : Ex G G') (eH : Ex G' H) (dis : ∀ b, AptV (B b) (G' b)) (hn : ∀ a ∈ owned δ, G' a = none) : Frame K B G' H σ δ :=
  ⟨F.exB, eH, dis, F.sl.ex eG (fun _ _ => rfl), fun a ha => ⟨(F.own a ha).1, hn a ha⟩, F.nd⟩
/-- a new frozen object p -/
theorem Frame.fresh (F : Frame K B G H σ δ) {p : Addr} (hp : H p = none) : B p = none ∧ G p = none ∧ p ∉ owned δ := by
  refine ⟨Evl.fresh_back F.exB hp, Evl.fresh_back F.exG hp, fun z => ?_⟩
  obtain ⟨o, ho⟩ := F.there z
  rw [ho] at hp
  cases hp
theorem Frame.laid (F : Frame K B G H σ δ) {p : Addr} {o : HO} (hp : H p = none) : Frame K B (upd G p o) (upd H p o) σ δ := by
  obtain ⟨h1, h2, h3⟩ := F.fresh hp
  refine (F.ex (Ex.new hp)).more (Ex.new h2) (fun a u e => ?_) (fun b => ?_) (fun a ha => ?_)
  · by_cases hb : a = p
    · subst hb; rw [upd_same] at e ⊢; exact e
    · rw [upd_ne hb] at e ⊢; exact F.exG _ _ e
  · by_cases hb : b = p
    · subst hb; exact .inl h1
    · rw [upd_ne hb]; exact F.dis b
  · rw [upd_ne (fun z => h3 (by rw [← z]; exact ha))]
    exact (F.own a ha).2
/-- tuples that stand there are told as frozen -/
theorem Frame.tups (F : Frame K B G H σ δ) (L : List Addr) (hL : ∀ b ∈ L, ∃ xs, H b = some (.tup xs)) : ∃ G1, Ex G G1 ∧ (∀ b ∈ L, G1 b = H b) ∧ Frame K B G1 H σ δ := by
  classical
  let G1 : Hp := fun b => if b ∈ L then H b else G b
  have g1 : ∀ b, b ∈ L → G1 b = H b := fun b hb => if_pos hb
  have g2 : ∀ b, b ∉ L → G1 b = G b := fun b hb => if_neg hb
  have eG : Ex G G1 := fun b o h => by
    by_cases hb : b ∈ L
    · rw [g1 b hb]; exact F.exG b o h
    · rw [g2 b hb]; exact h
  refine ⟨G1, eG, g1, F.more eG (fun b o h => ?_) (fun b => ?_) fun a ha => ?_⟩
  · by_cases hb : b ∈ L
    · rw [g1 b hb] at h; exact h
    · rw [g2 b hb] at h; exact F.exG b o h
  · by_cases hb : b ∈ L
    · obtain ⟨xs, hx⟩ := hL b hb
      exact .inr (.inr ⟨xs, (g1 b hb).trans hx⟩)
    · rw [g2 b hb]; exact F.dis b
  · have hn : a ∉ L := fun hb => by
      obtain ⟨xs, hx⟩ := hL a hb
      obtain ⟨o, ho, n⟩ := F.obj ha
      rw [hx] at ho
      cases ho
      exact n xs rfl
    rw [g2 a hn]
    exact (F.own a ha).2
/-- an object of one's own is told as frozen -/
theorem Frame.freeze (F : Frame K B G H σ δ) {a : Addr} {o : HO} (ha : H a = some o) (hB : B a = none) (hG : G a = none) (hn : a ∉ owned δ) : Frame K B (upd G a o) H σ δ := by
  refine F.more (Ex.new hG) (fun b u e => ?_) (fun b => ?_) (fun b hb => ?_)
  · by_cases q : b = a
    · subst q; rw [upd_same] at e; rw [ha]; exact e
    · rw [upd_ne q] at e; exact F.exG _ _ e
  · by_cases q : b = a
    · subst q; exact .inl hB
    · rw [upd_ne q]; exact F.dis b
  · rw [upd_ne (fun z => hn (by rw [← z]; exact hb))]
    exact (F.own b hb).2
theorem OwnR.rep {a : Addr} {x : D} {o : HO} (h : OwnR K G H a x) (ho : H a = some o) (hG : G a = none) : Rep K (upd G a o) x (.ref a) := by
  cases x with
  | lst ds =>
    obtain ⟨xs, h1, h2⟩ := h
    rw [ho] at h1
    cases h1
    unfold Rep
    exact ⟨a, xs, rfl, upd_same, h2.mono (Ex.new hG)⟩
  | dct ds =>
    obtain ⟨xs, h1, h2⟩ := h
    rw [ho] at h1
    cases h1
    unfold Rep
    exact ⟨a, xs, rfl, Rd.of upd_same, h2.mono (Ex.new hG)⟩
  | dcT ds =>
    obtain ⟨xs, h1, h2⟩ := h
    rw [ho] at h1
    cases h1
    unfold Rep
    exact ⟨a, xs, rfl, Rd.of upd_same, h2.mono (Ex.new hG)⟩
  | obj C ds =>
    obtain ⟨dx, xs, h1, h2⟩ := h
    rw [ho] at h1
    cases h1
    unfold Rep
    exact ⟨a, dx, xs, rfl, upd_same, h2.mono (Ex.new hG)⟩
  | _ => exact h.elim
/-- what is told of a thing's content: at H, its items frozen in G -/
theorem OwnR.repH {a : Addr} {x : D} (eG : Ex G H) (h : OwnR K G H a x) : Rep K H x (.ref a) := by
  cases x with
  | lst ds =>
    obtain ⟨xs, h1, h2⟩ := h
    unfold Rep
    exact ⟨a, xs, rfl, h1, h2.mono eG⟩
  | dct ds =>
    obtain ⟨xs, h1, h2⟩ := h
    unfold Rep
    exact ⟨a, xs, rfl, Rd.of h1, h2.mono eG⟩
  | dcT ds =>
    obtain ⟨xs, h1, h2⟩ := h
    unfold Rep
    exact ⟨a, xs, rfl, Rd.of h1, h2.mono eG⟩
  | obj C ds =>
    obtain ⟨dx, xs, h1, h2⟩ := h
    unfold Rep
    exact ⟨a, dx, xs, rfl, h1, h2.mono eG⟩
  | _ => exact h.elim
theorem Frame.get (F : Frame K B G H σ δ) {i : Nat} {s : Sl} (e : δ[i]? = some s) : ∃ ov, σ[i]? = some ov ∧ SlR K G H s ov := F.sl.get e
theorem view_bor {i : Nat} {a : Addr} {y : D} (h : δ[i]? = some (.own a y)) : view δ (.bor i a) = some y := by simp [view, h]
theorem view_deep {i : Nat} {a : Addr} {y : D} {gs : List (Addr × D)} (h : δ[i]? = some (.deep a y gs)) : view δ (.bor i a) = some y := by simp [view, h]
/-- a slot's own object, or one behind it -/
theorem view_own (F : Frame K B G H σ δ) {i : Nat} {a : Addr} {y : D} (h : view δ (.bor i a) = some y) : OwnR K G H a y ∧ a ∈ owned δ := by
  unfold view at h
  simp only at h
  split at h
  · rename_i b x e
    split at h
    · rename_i q
      subst q
      cases h
      obtain ⟨ov, _, h3⟩ := F.get e
      exact ⟨h3.2, owned_get e⟩
    · cases h
  · rename_i b x gs e
    obtain ⟨ov, _, _, h3, h4⟩ := F.get e
    split at h
    · rename_i q
      subst q
      cases h
      exact ⟨h3, owned_getA e List.mem_cons_self⟩
    · refine ⟨h4.get h, owned_getA e (List.mem_cons_of_mem _ ?_)⟩
      clear h3 h4 e
      induction gs with
      | nil => simp at h
      | cons q gs ih =>
        obtain ⟨c, z⟩ := q
        rw [List.lookup_cons] at h
        by_cases hc : a = c
        · subst hc; exact List.mem_cons_self
        · have hc' : (a == c) = false := by simp [hc]
          rw [hc'] at h
          exact List.mem_cons_of_mem _ (ih h)
  · cases h
/-- a thing as an operand: a new object is frozen -/
def frz : R → R
  | .own _ x => .d x
  | r => r
def RW (K : PySem.W.Frag) (G : Hp) : R → V → Prop
  | .d x, v => Rep K G x v
  | .own _ _, _ => False
  | .deep _ _ _, _ => True
  | .bor _ a, v => v = .ref a
theorem RW.mono {r : R} {v : V} (e : Ex G G') (h : RW K G r v) : RW K G' r v := by
  cases r with
  | d x => exact Rep.mono e h
  | own a x => exact h
  | deep a x gs => trivial
  | bor i a => exact h
theorem view_repH (F : Frame K B G H σ δ) {r : R} {v : V} {x : D} (h : RW K G r v) (e : view δ r = some x) : Rep K H x v := by
  cases r with
  | d y =>
    have e' : y = x := Option.some.inj e
    subst e'
    exact Rep.mono F.exG h
  | own a y => exact h.elim
  | deep a y gs => cases e
  | bor i a =>
    have e1 : v = .ref a := h
    subst e1
    exact (view_own F e).1.repH F.exG
/-- a list (tuple) that is read: its items are frozen -/
theorem view_lstH (F : Frame K B G H σ δ) {r : R} {v : V} {ds : List D} (h : RW K G r v) (e : view δ r = some (.lst ds)) : ∃ a xs, v = .ref a ∧ H a = some (.lst xs) ∧ Reps K G ds xs := by
  cases r with
  | d y =>
    have e' : y = .lst ds := Option.some.inj e
    subst e'
    have h' : Rep K G (.lst ds) v := h
    unfold Rep at h'
    obtain ⟨a, xs, e1, h1, h2⟩ := h'
    exact ⟨a, xs, e1, F.exG _ _ h1, h2⟩
  | own a y => exact h.elim
  | deep a y gs => cases e
  | bor i a =>
    have e1 : v = .ref a := h
    obtain ⟨xs, h3, h4⟩ := (view_own F e).1
    exact ⟨a, xs, e1, h3, h4⟩
theorem view_lst (F : Frame K B G H σ δ) {r : R} {v : V} {ds : List D} (h : RW K G r v) (e : view δ r = some (.lst ds)) : ∃ a xs, v = .ref a ∧ Rd H a (.lst xs) ∧ Reps K G ds xs := by
  obtain ⟨a, xs, e1, h1, h2⟩ := view_lstH F h e
  exact ⟨a, xs, e1, Rd.of h1, h2⟩
theorem view_ro (F : Frame K B G H σ δ) {r : R} {v : V} {ds : List D} (h : RW K G r v) (e : view δ r = some (.ro ds)) : ∃ a xs, v = .ref a ∧ SqL K H a xs ∧ Reps K G ds xs := by
  cases r with
  | d y =>
    have e' : y = .ro ds := Option.some.inj e
    subst e'
    have h' : Rep K G (.ro ds) v := h
    unfold Rep at h'
    obtain ⟨a, xs, e1, h1, h2⟩ := h'
    exact ⟨a, xs, e1, Evl.ex_l F.exG h1, h2⟩
  | own a y => exact h.elim
  | deep a y gs => cases e
  | bor i a => exact (view_own F e).1.elim
theorem view_tupH (F : Frame K B G H σ δ) {r : R} {v : V} {ds : List D} (h : RW K G r v) (e : view δ r = some (.tup ds)) : ∃ a xs, v = .ref a ∧ H a = some (.tup xs) ∧ Reps K G ds xs := by
  cases r with
  | d y =>
    have e' : y = .tup ds := Option.some.inj e
    subst e'
    have h' : Rep K G (.tup ds) v := h
    unfold Rep at h'
    obtain ⟨a, xs, e1, h1, h2⟩ := h'
    exact ⟨a, xs, e1, F.exG _ _ h1, h2⟩
  | own a y => exact h.elim
  | deep a y gs => cases e
  | bor i a => exact (view_own F e).1.elim
theorem view_tup (F : Frame K B G H σ δ) {r : R} {v : V} {ds : List D} (h : RW K G r v) (e : view δ r = some (.tup ds)) : ∃ a xs, v = .ref a ∧ SqT K H a xs ∧ Reps K G ds xs := by
  obtain ⟨a, xs, e1, h1, h2⟩ := view_tupH F h e
  exact ⟨a, xs, e1, SqT.of h1, h2⟩
theorem view_dct (F : Frame K B G H σ δ) {r : R} {v : V} {ds : List (Key × D)} (h : RW K G r v) (e : view δ r = some (.dct ds)) : ∃ a xs, v = .ref a ∧ Rd H a (.dK xs) ∧ RepK K G ds xs := by
  cases r with
  | d y =>
    have e' : y = .dct ds := Option.some.inj e
    subst e'
    have h' : Rep K G (.dct ds) v := h
    unfold Rep at h'
    obtain ⟨a, xs, e1, h1, h2⟩ := h'
    exact ⟨a, xs, e1, Evl.ex_rd F.exG h1, h2⟩
  | own a y => exact h.elim
  | deep a y gs => cases e
  | bor i a =>
    have e1 : v = .ref a := h
    obtain ⟨xs, h3, h4⟩ := (view_own F e).1
    exact ⟨a, xs, e1, Rd.of h3, h4⟩
theorem view_dcT (F : Frame K B G H σ δ) {r : R} {v : V} {ds : List (List Key × D)} (h : RW K G r v) (e : view δ r = some (.dcT ds)) : ∃ a xs, v = .ref a ∧ Rd H a (.dT xs) ∧ RepT K G ds xs := by
  cases r with
  | d y =>
    have e' : y = .dcT ds := Option.some.inj e
    subst e'
    have h' : Rep K G (.dcT ds) v := h
    unfold Rep at h'
    obtain ⟨a, xs, e1, h1, h2⟩ := h'
    exact ⟨a, xs, e1, Evl.ex_rd F.exG h1, h2⟩
  | own a y => exact h.elim
  | deep a y gs => cases e
  | bor i a =>
    have e1 : v = .ref a := h
    obtain ⟨xs, h3, h4⟩ := (view_own F e).1
    exact ⟨a, xs, e1, Rd.of h3, h4⟩
theorem RV.weak (F : Frame K B G H σ δ) {r : R} {v : V} (h : RV K B G H δ r v) : ∃ G1, Ex G G1 ∧ Frame K B G1 H σ δ ∧ RW K G1 (frz r) v := by
  cases r with
  | d x => exact ⟨G, Ex.refl G, F, h⟩
  | own a x =>
    obtain ⟨e1, h1, h2, h3, h4⟩ := h
    subst e1
    obtain ⟨o, ho⟩ := h1.there
    exact ⟨upd G a o, Ex.new h3, F.freeze ho h2 h3 h4, h1.rep ho h3⟩
  | deep a x gs => exact ⟨G, Ex.refl G, F, trivial⟩
  | bor i a => exact ⟨G, Ex.refl G, F, h.1⟩
def adsR : R → List Addr
  | .own a _ => [a]
  | .deep a _ gs => a :: gs.map Prod.fst
  | _ => []
theorem RV.ex {r : R} {v : V} (h : RV K B G H δ r v) (eG : Ex G G') (eH : Ex H H') (hn : ∀ a ∈ adsR r, G' a = none) : RV K B G' H' δ r v := by
  cases r with
  | d x => exact Rep.mono eG h
  | own a x =>
    obtain ⟨e1, h1, h2, h3, h4⟩ := h
    exact ⟨e1, h1.ex eG eH, h2, hn a (List.mem_singleton.mpr rfl), h4⟩
  | deep a x gs =>
    obtain ⟨e1, h1, h2, h3, h4⟩ := h
    exact ⟨e1, h1.ex eG eH, h2.ex eG eH, fun b hb => ⟨(h3 b hb).1, hn b hb, (h3 b hb).2.2⟩, h4⟩
  | bor i a => exact h
end

/-! ### the words -/
/-- where one stands: the written part, and what an error's way out asks -/
structure Cd where
  K : PySem.W.Frag
  xr : Hp → Hp → Prop
  mono : ∀ B G G', Ex G G' → xr B G → xr B G'
abbrev c0 (K : PySem.W.Frag) : Cd := ⟨K, fun _ _ => True, fun _ _ _ _ h => h⟩
/-- an expression, from slots δ: Φ of what it hands on and the slots behind; p: nothing that stood is changed -/
def WE (c : Cd) (p : Bool) (te : TE) (δ : List Sl) (Φ : R → List Sl → Prop) : Prop :=
  ∀ (B G H : Hp) (σ : St) (Q : VK), Frame c.K B G H σ δ → c.xr B G →
    (∀ r δ' v G' H', Φ r δ' → Ex G G' → Frame c.K B G' H' σ δ' → RV c.K B G' H' δ' r v → (p = true → δ' = δ ∧ Ex H H') → Q v H') → te σ H Q
def WT (c : Cd) (p : Bool) (tt : TT) (δ : List Sl) (Φ : Bool → List Sl → Prop) : Prop :=
  ∀ (B G H : Hp) (σ : St) (Q : Bool → Hp → Prop), Frame c.K B G H σ δ → c.xr B G →
    (∀ b δ' G' H', Φ b δ' → Ex G G' → Frame c.K B G' H' σ δ' → (p = true → δ' = δ ∧ Ex H H') → Q b H') → tt σ H Q
/-- arguments: each thing data (bor: a slot's own, lent) -/
def RVs (K : PySem.W.Frag) (G : Hp) : List R → List V → Prop
  | [], vs => vs = []
  | r :: rs, vs => ∃ v vr, vs = v :: vr ∧ RW K G r v ∧ RVs K G rs vr
theorem RVs.mono {K : PySem.W.Frag} {G G' : Hp} (e : Ex G G') : ∀ {rs : List R} {vs : List V}, RVs K G rs vs → RVs K G' rs vs
  | [], _, h => h
  | r :: rs, _, h => by
    obtain ⟨v, vr, e1, h1, h2⟩ := h
    exact ⟨v, vr, e1, h1.mono e, RVs.mono e h2⟩
def WA (c : Cd) (p : Bool) (ta : TA) (δ : List Sl) (Φ : List R → List Sl → Prop) : Prop :=
  ∀ (B G H : Hp) (σ : St) (Q : List V → Hp → Prop), Frame c.K B G H σ δ → c.xr B G →
    (∀ rs δ' vs G' H', Φ rs δ' → Ex G G' → Frame c.K B G' H' σ δ' → RVs c.K G' rs vs → (p = true → δ' = δ ∧ Ex H H') → Q vs H') → ta σ H Q
structure En where
  nx : List Sl → Prop
  rt : R → List Sl → Prop
  bk : List Sl → Prop := fun _ => False
  ct : List Sl → Prop := fun _ => False
structure EnR (c : Cd) (B G : Hp) (E : En) (D : Ends) : Prop where
  nx : ∀ δ' σ' G' H', E.nx δ' → Ex G G' → Frame c.K B G' H' σ' δ' → D.nx σ' H'
  rt : ∀ r δ' v σ' G' H', E.rt r δ' → Ex G G' → Frame c.K B G' H' σ' δ' → RV c.K B G' H' δ' r v → D.rt v H'
  bk : ∀ δ' σ' G' H', E.bk δ' → Ex G G' → Frame c.K B G' H' σ' δ' → D.bk σ' H'
  ct : ∀ δ' σ' G' H', E.ct δ' → Ex G G' → Frame c.K B G' H' σ' δ' → D.ct σ' H'
theorem EnR.mono {c : Cd} {B G G1 : Hp} {E : En} {D : Ends} (h : EnR c B G E D) (e : Ex G G1) : EnR c B G1 E D :=
  ⟨fun δ' σ' G' H' a b => h.nx δ' σ' G' H' a (e.trans b), fun r δ' v σ' G' H' a b => h.rt r δ' v σ' G' H' a (e.trans b), fun δ' σ' G' H' a b => h.bk δ' σ' G' H' a (e.trans b), fun δ' σ' G' H' a b => h.ct δ' σ' G' H' a (e.trans b)⟩
def WS (c : Cd) (t : TS) (δ : List Sl) (E : En) : Prop :=
  ∀ (B G H : Hp) (σ : St) (D : Ends), Frame c.K B G H σ δ → c.xr B G → EnR c B G E D → t D σ H
/-- a target, handed a thing -/
def WG (c : Cd) (g : TG) (r : R) (δ : List Sl) (Φ : List Sl → Prop) : Prop :=
  ∀ (B G H : Hp) (σ : St) (v : V) (Q : St → Hp → Prop), Frame c.K B G H σ δ → c.xr B G → RV c.K B G H δ r v →
    (∀ δ' σ' G' H', Φ δ' → Ex G G' → Frame c.K B G' H' σ' δ' → Q σ' H') → g v σ H Q
end DL

/-! DL1: the rules of the words. -/
namespace DL
open PySem PySem.Spec PyProof.Rows L2
open Evl (Ex)
section
variable {c : Cd} {p : Bool} {δ : List Sl} {te ta tb : TE} {Φ Φ' : R → List Sl → Prop}
/-! ### values -/
theorem we_mono (h : WE c p te δ Φ) (m : ∀ r δ', Φ r δ' → Φ' r δ') : WE c p te δ Φ' := fun B G H σ Q F x k =>
  h B G H σ Q F x fun r δ' v G' H' w => k r δ' v G' H' (m r δ' w)
theorem wt_mono {tt : TT} {Φ Φ' : Bool → List Sl → Prop} (h : WT c p tt δ Φ) (m : ∀ r δ', Φ r δ' → Φ' r δ') : WT c p tt δ Φ' := fun B G H σ Q F x k =>
  h B G H σ Q F x fun r δ' G' H' w => k r δ' G' H' (m r δ' w)
theorem ws_mono {t : TS} {E E' : En} (h : WS c t δ E) (m1 : ∀ δ', E.nx δ' → E'.nx δ') (m2 : ∀ r δ', E.rt r δ' → E'.rt r δ') (m3 : ∀ δ', E.bk δ' → E'.bk δ') (m4 : ∀ δ', E.ct δ' → E'.ct δ') : WS c t δ E' := fun B G H σ D F x e =>
  h B G H σ D F x ⟨fun δ' σ' G' H' w => e.nx δ' σ' G' H' (m1 _ w), fun r δ' v σ' G' H' w => e.rt r δ' v σ' G' H' (m2 _ _ w), fun δ' σ' G' H' w => e.bk δ' σ' G' H' (m3 _ w), fun δ' σ' G' H' w => e.ct δ' σ' G' H' (m4 _ w)⟩
/-- what a slot hands on -/
def rd (δ : List Sl) (i : Nat) : Option R := match δ[i]? with
  | some (.d x) => some (.d x)
  | some (.own a _) => some (.bor i a)
  | some (.deep a _ _) => some (.bor i a)
  | _ => none
theorem we_var {i : Nat} {r : R} (h : rd δ i = some r) (q : Φ r δ) : WE c p (tVar i) δ Φ := by
  intro B G H σ Q F x k
  unfold rd at h
  split at h
  · rename_i y e
    obtain ⟨ov, e1, v, e2, hr⟩ := F.get e
    subst e2
    cases h
    exact ⟨v, e1, k _ δ v G H q (Ex.refl G) F hr fun _ => ⟨rfl, Ex.refl H⟩⟩
  · rename_i a y e
    obtain ⟨ov, e1, e2, hr⟩ := F.get e
    subst e2
    cases h
    exact ⟨.ref a, e1, k _ δ _ G H q (Ex.refl G) F ⟨rfl, y, view_bor e⟩ fun _ => ⟨rfl, Ex.refl H⟩⟩
  · rename_i a y gs e
    obtain ⟨ov, e1, e2, hr⟩ := F.get e
    subst e2
    cases h
    exact ⟨.ref a, e1, k _ δ _ G H q (Ex.refl G) F ⟨rfl, y, view_deep e⟩ fun _ => ⟨rfl, Ex.refl H⟩⟩
  · cases h
def dOf : V → D
  | .bl b => .bl b
  | .int i => .int i
  | .str x => .str x
  | .ty n => .ty n
  | .ref a => .ptr a
  | _ => .non
def isC : V → Bool
  | .byt _ => false
  | .flt _ => false
  | _ => true
theorem rep_dOf {K : PySem.W.Frag} {G : Hp} {v : V} (h : isC v = true) : Rep K G (dOf v) v := by
  cases v <;> first | (cases h; done) | (unfold dOf Rep; rfl)
theorem rep_bl {K : PySem.W.Frag} {G : Hp} {b : Bool} : Rep K G (.bl b) (.bl b) := by unfold Rep; rfl
theorem rep_int {K : PySem.W.Frag} {G : Hp} {b : Int} : Rep K G (.int b) (.int b) := by unfold Rep; rfl
theorem rep_str {K : PySem.W.Frag} {G : Hp} {b : Str} : Rep K G (.str b) (.str b) := by unfold Rep; rfl
theorem rep_non {K : PySem.W.Frag} {G : Hp} : Rep K G .non .non := by unfold Rep; rfl
theorem rv_bl {K : PySem.W.Frag} {B G H : Hp} {δ : List Sl} {b : Bool} : RV K B G H δ (.d (.bl b)) (.bl b) := rep_bl (K := K) (G := G)
theorem we_c {v : V} (q : Φ (.d (dOf v)) δ) (h : isC v = true := by rfl) : WE c p (tC v) δ Φ := fun B G H σ Q F x k =>
  k _ δ v G H q (Ex.refl G) F (rep_dOf h) fun _ => ⟨rfl, Ex.refl H⟩
/-- a thing of the written part -/
theorem we_k {v : V} {x : D} (h : ∀ G, Rep c.K G x v) (q : Φ (.d x) δ) : WE c p (tC v) δ Φ := fun B G H σ Q F z k =>
  k _ δ v G H q (Ex.refl G) F (h G) fun _ => ⟨rfl, Ex.refl H⟩
/-! ### operators -/
abbrev Dop := D → D → (R → Prop) → Prop
/-- what an operation does, by data -/
def OpD (c : Cd) (r : R2) (f : Dop) : Prop := ∀ (B G H : Hp) (σ : St) (δ : List Sl) (r1 r2 : R) (v1 v2 : V) (x y : D) (Ψ : R → Prop) (Q : VK), Frame c.K B G H σ δ → RW c.K G r1 v1 → RW c.K G r2 v2 → view δ r1 = some x → view δ r2 = some y → f x y Ψ →
  (∀ r v G' H', Ψ r → Ex G G' → Ex H H' → Frame c.K B G' H' σ δ → RV c.K B G' H' δ r v → Q v H') → r v1 v2 H Q
theorem we_op {r : R2} {f : Dop} (ho : OpD c r f) (h : WE c p ta δ fun r1 δ1 => WE c p tb δ1 fun r2 δ2 => ∃ x y, view δ2 (frz r1) = some x ∧ view δ2 (frz r2) = some y ∧ f x y fun r => Φ r δ2) : WE c p (tOp r ta tb) δ Φ := by
  intro B G H σ Q F x k
  refine h B G H σ _ F x fun r1 δ1 v1 G1 H1 w1 e1 F1 rv1 p1 => ?_
  obtain ⟨G1', e1', F1', rw1⟩ := rv1.weak F1
  refine w1 B G1' H1 σ _ F1' (c.mono _ _ _ (e1.trans e1') x) fun r2 δ2 v2 G2 H2 w2 e2 F2 rv2 p2 => ?_
  obtain ⟨G2', e2', F2', rw2⟩ := rv2.weak F2
  obtain ⟨x, y, hx, hy, hd⟩ := w2
  refine ho B G2' H2 σ δ2 _ _ v1 v2 x y _ _ F2' (rw1.mono (e2.trans e2')) rw2 hx hy hd fun r v G' H' q e3 e4 F3 rv3 => ?_
  exact k r δ2 v G' H' q ((e1.trans e1').trans ((e2.trans e2').trans e3)) F3 rv3 fun hp => ⟨(p2 hp).1.trans (p1 hp).1, ((p1 hp).2.trans (p2 hp).2).trans e4⟩
/-- by the data at H alone -/
theorem opd_H {r : R2} {f : Dop} (h : ∀ (H : Hp) (v1 v2 : V) (x y : D) (Ψ : R → Prop) (Q : VK), Rep c.K H x v1 → Rep c.K H y v2 → f x y Ψ → (∀ z v, Ψ (.d z) → (∀ G, Rep c.K G z v) → Q v H) → r v1 v2 H Q) : OpD c r f :=
  fun B G H σ δ r1 r2 v1 v2 x y Ψ Q F h1 h2 e1 e2 hf k => h H v1 v2 x y Ψ Q (view_repH F h1 e1) (view_repH F h2 e2) hf fun z v q hz => k (.d z) v G H q (Ex.refl G) (Ex.refl H) F (hz G)
def dInt (C : Int → Int → Prop) (g : Int → Int → D) : Dop
  | .int i, .int j, k => C i j ∧ k (.d (g i j))
  | _, _, _ => False
theorem opd_I {C : Int → Int → Prop} {g : Int → Int → V} {g' : Int → Int → D} (hg : ∀ G i j, Rep c.K G (g' i j) (g i j)) : OpD c (rI C g) (dInt C g') := opd_H fun H v1 v2 x y Ψ Q h1 h2 hf k => by
  cases x with
  | int i =>
    cases y with
    | int j =>
      unfold Rep at h1 h2
      exact ⟨i, j, h1, h2, hf.1, k _ _ hf.2 fun G => hg G i j⟩
    | _ => exact hf.elim
  | _ => cases y <;> exact hf.elim
def dInt0 (g : Int → Int → D) : Dop
  | .int i, .int j, k => k (.d (g i j))
  | _, _, _ => False
theorem opd_I0 {g : Int → Int → V} {g' : Int → Int → D} (hg : ∀ G i j, Rep c.K G (g' i j) (g i j)) : OpD c (rI0 g) (dInt0 g') := opd_H fun H v1 v2 x y Ψ Q h1 h2 hf k => by
  cases x with
  | int i =>
    cases y with
    | int j =>
      unfold Rep at h1 h2
      exact ⟨i, j, h1, h2, k _ _ hf fun G => hg G i j⟩
    | _ => exact hf.elim
  | _ => cases y <;> exact hf.elim
/-! a new list, a new tuple -/
theorem rv_newL {K : PySem.W.Frag} {B G H : Hp} {σ : St} {δ : List Sl} {q : Addr} {xs : List V} {ds : List D} (F : Frame K B G H σ δ) (hp : H q = none) (h : Reps K G ds xs) : RV K B G (upd H q (.lst xs)) δ (.own q (.lst ds)) (.ref q) := by
  obtain ⟨h1, h2, h3⟩ := F.fresh hp
  exact ⟨rfl, ⟨xs, upd_same, h⟩, h1, h2, h3⟩
theorem rep_newT {K : PySem.W.Frag} {G : Hp} {q : Addr} {xs : List V} {ds : List D} (hp : G q = none) (h : Reps K G ds xs) : Rep K (upd G q (.tup xs)) (.tup ds) (.ref q) := by
  unfold Rep
  exact ⟨q, xs, rfl, upd_same, h.mono (Ex.new hp)⟩
/-! ### arguments -/
theorem wa_nil {Ψ : List R → List Sl → Prop} (q : Ψ [] δ) : WA c p tNil δ Ψ := fun B G H σ Q F x k => k [] δ [] G H q (Ex.refl G) F rfl fun _ => ⟨rfl, Ex.refl H⟩
theorem wa_cons {tr : TA} {Ψ : List R → List Sl → Prop} (h : WE c p te δ fun r δ1 => WA c p tr δ1 fun rs δ2 => Ψ (frz r :: rs) δ2) : WA c p (tCons te tr) δ Ψ := by
  intro B G H σ Q F x k
  refine h B G H σ _ F x fun r1 δ1 v1 G1 H1 w1 e1 F1 rv1 p1 => ?_
  obtain ⟨G1', e1', F1', rw1⟩ := rv1.weak F1
  refine w1 B G1' H1 σ _ F1' (c.mono _ _ _ (e1.trans e1') x) fun rs δ2 vs G2 H2 w2 e2 F2 rv2 p2 => ?_
  exact k _ δ2 (v1 :: vs) G2 H2 w2 ((e1.trans e1').trans e2) F2 ⟨v1, vs, rfl, rw1.mono e2, rv2⟩ fun hp => ⟨(p2 hp).1.trans (p1 hp).1, (p1 hp).2.trans (p2 hp).2⟩
def datas : List R → Option (List D)
  | [] => some []
  | .d x :: rs => (datas rs).map (x :: ·)
  | _ :: _ => none
theorem datas_reps {K : PySem.W.Frag} {G : Hp} : ∀ {rs : List R} {ds : List D} {vs : List V}, datas rs = some ds → RVs K G rs vs → Reps K G ds vs
  | [], ds, vs, e, h => by
    cases e
    have e1 : vs = [] := h
    subst e1
    exact reps_nil
  | .d x :: rs, ds, vs, e, h => by
    obtain ⟨v, vr, e1, h1, h2⟩ := h
    subst e1
    unfold datas at e
    cases q : datas rs with
    | none => rw [q] at e; cases e
    | some es =>
      rw [q] at e
      cases e
      exact reps_cons h1 (datas_reps q h2)
  | .own a x :: rs, ds, vs, e, h => by cases e
  | .bor i a :: rs, ds, vs, e, h => by cases e
theorem we_lst {tr : TA} (h : WA c p tr δ fun rs δ1 => ∃ ds, datas rs = some ds ∧ ds.length ≤ 100000 ∧ ∀ a, Φ (.own a (.lst ds)) δ1) : WE c p (tLst tr) δ Φ := by
  intro B G H σ Q F x k
  refine h B G H σ _ F x fun rs δ1 vs G1 H1 w1 e1 F1 rv1 p1 => ?_
  obtain ⟨ds, hd, hl, w⟩ := w1
  have hr := datas_reps hd rv1
  refine ⟨Evl.sz_of (by rw [reps_length hr]; exact hl), fun q hq => ?_⟩
  exact k _ δ1 _ G1 _ (w q) e1 (F1.ex (Ex.new hq)) (rv_newL F1 hq hr) fun hp => ⟨(p1 hp).1, (p1 hp).2.trans (Ex.new hq)⟩
theorem we_tup {tr : TA} (h : WA c p tr δ fun rs δ1 => ∃ ds, datas rs = some ds ∧ ds.length ≤ 100000 ∧ Φ (.d (.tup ds)) δ1) : WE c p (tTup tr) δ Φ := by
  intro B G H σ Q F x k
  refine h B G H σ _ F x fun rs δ1 vs G1 H1 w1 e1 F1 rv1 p1 => ?_
  obtain ⟨ds, hd, hl, w⟩ := w1
  have hr := datas_reps hd rv1
  refine ⟨Evl.sz_of (by rw [reps_length hr]; exact hl), fun q hq => ?_⟩
  have hG := (F1.fresh hq).2.1
  exact k _ δ1 _ (upd G1 q (.tup vs)) _ w (e1.trans (Ex.new hG)) (F1.laid hq) (rep_newT hG hr) fun hp => ⟨(p1 hp).1, (p1 hp).2.trans (Ex.new hq)⟩
/-! ### tests -/
variable {Φt : Bool → List Sl → Prop} {tt tu : TT}
theorem wt_test (h : WE c p te δ fun r δ1 => ∃ b, r = .d (.bl b) ∧ Φt b δ1) : WT c p (tTest te) δ Φt := by
  intro B G H σ Q F x k
  refine h B G H σ _ F x fun r1 δ1 v1 G1 H1 w1 e1 F1 rv1 p1 => ?_
  obtain ⟨b, e, w⟩ := w1
  subst e
  exact ⟨b, (by have h : Rep c.K G1 (.bl b) v1 := rv1; unfold Rep at h; exact h), k b δ1 G1 H1 w e1 F1 p1⟩
theorem wt_B (h : WE c p te δ fun r δ1 => ∃ b, r = .d (.bl b) ∧ Φt b δ1) : WT c p (tB te) δ Φt := wt_test h
/-- the truth of a thing -/
def truD : D → Option Bool
  | .non => some false
  | .bl b => some b
  | .int i => some (i != 0)
  | .str x => some ((x.length : Int) != 0)
  | .lst ds => some (!ds.isEmpty)
  | .tup ds => some (!ds.isEmpty)
  | .dct ds => some (!ds.isEmpty)
  | _ => none
def strOk : D → Prop
  | .str x => x.length ≤ 16000000
  | _ => True
theorem isEmpty_reps {K : PySem.W.Frag} {G : Hp} {ds : List D} {xs : List V} (h : Reps K G ds xs) : xs.isEmpty = ds.isEmpty := by
  have e := reps_length h
  cases ds <;> cases xs <;> simp_all
theorem isEmpty_repK {K : PySem.W.Frag} {G : Hp} : ∀ {ds : List (Key × D)} {xs : List (Key × V)}, RepK K G ds xs → xs.isEmpty = ds.isEmpty
  | [], xs, h => by unfold RepK at h; subst h; rfl
  | (k, d) :: ds, xs, h => by
    unfold RepK at h
    obtain ⟨v, vr, e, _⟩ := h
    subst e
    rfl
def tTruth (K : PySem.W.Frag) (ta : TE) : TT := fun σ H Q => ta σ H fun x H' => ∃ k, TruV K x H' k ∧ Q k H'
theorem pt_tru {X : Cx} {a : Expr} (ha : PE X a ta) (he : ∀ whole, isTrue a X.env whole = (do let v ← whole; standAt a.pos; holding [v] (truthy v))) : PT X a (tTruth X.K ta) := pt_truth ha he
theorem size16 {n : Nat} (h : n ≤ 16000000) : n ≤ sizeLine := by rw [sizeLine_eq]; omega
theorem wt_truth (h : WE c p te δ fun r δ1 => ∃ x b, view δ1 (frz r) = some x ∧ truD x = some b ∧ strOk x ∧ (∀ ds, x = .dct ds → ∃ i a, r = .bor i a) ∧ Φt b δ1) : WT c p (tTruth c.K te) δ Φt := by
  intro B G H σ Q F x k
  refine h B G H σ _ F x fun r1 δ1 v1 G1 H1 w1 e1 F1 rv1 p1 => ?_
  obtain ⟨G1', e1', F1', rw1⟩ := rv1.weak F1
  obtain ⟨y, b, hv, ht, hs, hd, w⟩ := w1
  refine ⟨b, ?_, k b δ1 G1' H1 w (e1.trans e1') F1' p1⟩
  cases y with
  | non => have h := view_repH F1' rw1 hv; unfold Rep at h; subst h; cases ht; rfl
  | bl _ => have h := view_repH F1' rw1 hv; unfold Rep at h; subst h; cases ht; rfl
  | int _ => have h := view_repH F1' rw1 hv; unfold Rep at h; subst h; cases ht; rfl
  | str z => have h := view_repH F1' rw1 hv; unfold Rep at h; subst h; cases ht; exact ⟨size16 hs, rfl⟩
  | lst ds =>
    obtain ⟨a, xs, e, h1, h2⟩ := view_lst F1' rw1 hv
    subst e
    cases ht
    exact .inl ⟨xs, .inl h1, by rw [isEmpty_reps h2]⟩
  | tup ds =>
    obtain ⟨a, xs, e, h1, h2⟩ := view_tup F1' rw1 hv
    subst e
    cases ht
    exact .inr (.inl ⟨xs, h1, by rw [isEmpty_reps h2]⟩)
  | dct ds =>
    obtain ⟨i, a, e⟩ := hd ds rfl
    subst e
    have e2 : v1 = .ref a := rw1
    subst e2
    obtain ⟨xs, h3, h4⟩ := (view_own F1' hv).1
    cases ht
    exact .inr (.inr ⟨xs, h3, by rw [isEmpty_repK h4]⟩)
  | _ => cases ht
theorem wt_and (h : WT c p tt δ fun b δ1 => (b = true → WT c p tu δ1 Φt) ∧ (b = false → Φt false δ1)) : WT c p (tAnd tt tu) δ Φt := by
  intro B G H σ Q F x k
  refine h B G H σ _ F x fun b δ1 G1 H1 w1 e1 F1 p1 => ?_
  cases b with
  | true => exact w1.1 rfl B G1 H1 σ _ F1 (c.mono _ _ _ e1 x) fun b2 δ2 G2 H2 w2 e2 F2 p2 => k b2 δ2 G2 H2 w2 (e1.trans e2) F2 fun hp => ⟨(p2 hp).1.trans (p1 hp).1, (p1 hp).2.trans (p2 hp).2⟩
  | false => exact k false δ1 G1 H1 (w1.2 rfl) e1 F1 p1
theorem wt_or (h : WT c p tt δ fun b δ1 => (b = true → Φt true δ1) ∧ (b = false → WT c p tu δ1 Φt)) : WT c p (tOr tt tu) δ Φt := by
  intro B G H σ Q F x k
  refine h B G H σ _ F x fun b δ1 G1 H1 w1 e1 F1 p1 => ?_
  cases b with
  | false => exact w1.2 rfl B G1 H1 σ _ F1 (c.mono _ _ _ e1 x) fun b2 δ2 G2 H2 w2 e2 F2 p2 => k b2 δ2 G2 H2 w2 (e1.trans e2) F2 fun hp => ⟨(p2 hp).1.trans (p1 hp).1, (p1 hp).2.trans (p2 hp).2⟩
  | true => exact k true δ1 G1 H1 (w1.1 rfl) e1 F1 p1
theorem wt_not (h : WT c p tt δ fun b δ1 => Φt (!b) δ1) : WT c p (tNot tt) δ Φt := fun B G H σ Q F x k => h B G H σ _ F x fun b δ1 G1 H1 w1 e1 F1 p1 => k (!b) δ1 G1 H1 w1 e1 F1 p1
theorem we_andV (h : WE c p ta δ fun r δ1 => ∃ b, r = .d (.bl b) ∧ (b = true → WE c p tb δ1 Φ) ∧ (b = false → Φ (.d (.bl false)) δ1)) : WE c p (tAndV ta tb) δ Φ := by
  intro B G H σ Q F x k
  refine h B G H σ _ F x fun r1 δ1 v1 G1 H1 w1 e1 F1 rv1 p1 => ?_
  obtain ⟨b, e, w, w'⟩ := w1
  subst e
  have e2 : v1 = .bl b := by have h : Rep c.K G1 (.bl b) v1 := rv1; unfold Rep at h; exact h
  refine ⟨b, e2, ?_⟩
  cases b with
  | true => exact w rfl B G1 H1 σ _ F1 (c.mono _ _ _ e1 x) fun b2 δ2 v2 G2 H2 w2 e2 F2 rv2 p2 => k b2 δ2 v2 G2 H2 w2 (e1.trans e2) F2 rv2 fun hp => ⟨(p2 hp).1.trans (p1 hp).1, (p1 hp).2.trans (p2 hp).2⟩
  | false => exact k _ δ1 _ G1 H1 (w' rfl) e1 F1 rv_bl p1
theorem we_orV (h : WE c p ta δ fun r δ1 => ∃ b, r = .d (.bl b) ∧ (b = true → Φ (.d (.bl true)) δ1) ∧ (b = false → WE c p tb δ1 Φ)) : WE c p (tOrV ta tb) δ Φ := by
  intro B G H σ Q F x k
  refine h B G H σ _ F x fun r1 δ1 v1 G1 H1 w1 e1 F1 rv1 p1 => ?_
  obtain ⟨b, e, w, w'⟩ := w1
  subst e
  have e2 : v1 = .bl b := by have h : Rep c.K G1 (.bl b) v1 := rv1; unfold Rep at h; exact h
  refine ⟨b, e2, ?_⟩
  cases b with
  | false => exact w' rfl B G1 H1 σ _ F1 (c.mono _ _ _ e1 x) fun b2 δ2 v2 G2 H2 w2 e2 F2 rv2 p2 => k b2 δ2 v2 G2 H2 w2 (e1.trans e2) F2 rv2 fun hp => ⟨(p2 hp).1.trans (p1 hp).1, (p1 hp).2.trans (p2 hp).2⟩
  | true => exact k _ δ1 _ G1 H1 (w rfl) e1 F1 rv_bl p1
theorem we_notV (h : WE c p ta δ fun r δ1 => ∃ b, r = .d (.bl b) ∧ Φ (.d (.bl (!b))) δ1) : WE c p (tNotV ta) δ Φ := by
  intro B G H σ Q F x k
  refine h B G H σ _ F x fun r1 δ1 v1 G1 H1 w1 e1 F1 rv1 p1 => ?_
  obtain ⟨b, e, w⟩ := w1
  subst e
  have e2 : v1 = .bl b := by have h : Rep c.K G1 (.bl b) v1 := rv1; unfold Rep at h; exact h
  exact ⟨b, e2, k _ δ1 _ G1 H1 w e1 F1 rv_bl p1⟩
theorem we_if (h : WT c p tt δ fun b δ1 => (b = true → WE c p ta δ1 Φ) ∧ (b = false → WE c p tb δ1 Φ)) : WE c p (tIf tt ta tb) δ Φ := by
  intro B G H σ Q F x k
  refine h B G H σ _ F x fun b δ1 G1 H1 w1 e1 F1 p1 => ?_
  cases b with
  | true => exact w1.1 rfl B G1 H1 σ _ F1 (c.mono _ _ _ e1 x) fun b2 δ2 v2 G2 H2 w2 e2 F2 rv2 p2 => k b2 δ2 v2 G2 H2 w2 (e1.trans e2) F2 rv2 fun hp => ⟨(p2 hp).1.trans (p1 hp).1, (p1 hp).2.trans (p2 hp).2⟩
  | false => exact w1.2 rfl B G1 H1 σ _ F1 (c.mono _ _ _ e1 x) fun b2 δ2 v2 G2 H2 w2 e2 F2 rv2 p2 => k b2 δ2 v2 G2 H2 w2 (e1.trans e2) F2 rv2 fun hp => ⟨(p2 hp).1.trans (p1 hp).1, (p1 hp).2.trans (p2 hp).2⟩
/-- a op b op' c -/
theorem we_chain {r r' : R2} {f f' : Dop} {tc : TE} (ho : OpD c r f) (ho' : OpD c r' f') (h : WE c p ta δ fun r1 δ1 => WE c p tb δ1 fun r2 δ2 => ∃ x y, view δ2 (frz r1) = some x ∧ view δ2 (frz r2) = some y ∧
    f x y fun r => ∃ b, r = .d (.bl b) ∧ (b = true → WE c p tc δ2 fun r3 δ3 => ∃ y z, view δ3 (frz r2) = some y ∧ view δ3 (frz r3) = some z ∧ f' y z fun r => Φ r δ3) ∧ (b = false → Φ (.d (.bl false)) δ2)) : WE c p (tChain r r' ta tb tc) δ Φ := by
  intro B G H σ Q F x k
  refine h B G H σ _ F x fun r1 δ1 v1 G1 H1 w1 e1 F1 rv1 p1 => ?_
  obtain ⟨G1', e1', F1', rw1⟩ := rv1.weak F1
  refine w1 B G1' H1 σ _ F1' (c.mono _ _ _ (e1.trans e1') x) fun r2 δ2 v2 G2 H2 w2 e2 F2 rv2 p2 => ?_
  obtain ⟨G2', e2', F2', rw2⟩ := rv2.weak F2
  obtain ⟨x', y, hx, hy, hd⟩ := w2
  refine ho B G2' H2 σ δ2 _ _ v1 v2 x' y _ _ F2' (rw1.mono (e2.trans e2')) rw2 hx hy hd fun r v G3 H3 q e3 e4 F3 rv3 => ?_
  obtain ⟨b, e, w, w'⟩ := q
  subst e
  have e5 : v = .bl b := by have h : Rep c.K G3 (.bl b) v := rv3; unfold Rep at h; exact h
  refine ⟨b, e5, ?_⟩
  have eG := (e1.trans e1').trans ((e2.trans e2').trans e3)
  cases b with
  | false => exact k _ δ2 _ G3 H3 (w' rfl) eG F3 rv_bl fun hp => ⟨(p2 hp).1.trans (p1 hp).1, ((p1 hp).2.trans (p2 hp).2).trans e4⟩
  | true =>
    refine w rfl B G3 H3 σ _ F3 (c.mono _ _ _ eG x) fun r4 δ4 v4 G4 H4 w4 e6 F4 rv4 p4 => ?_
    obtain ⟨G4', e4', F4', rw4⟩ := rv4.weak F4
    obtain ⟨y', z, hy', hz, hd'⟩ := w4
    refine ho' B G4' H4 σ δ4 _ _ v2 v4 y' z _ _ F4' (rw2.mono (e3.trans (e6.trans e4'))) rw4 hy' hz hd' fun r v G5 H5 q e7 e8 F5 rv5 => ?_
    exact k r δ4 v G5 H5 q (eG.trans ((e6.trans e4').trans e7)) F5 rv5 fun hp => ⟨((p4 hp).1.trans (p2 hp).1).trans (p1 hp).1, ((((p1 hp).2.trans (p2 hp).2).trans e4).trans (p4 hp).2).trans e8⟩
/-! ### calls of built-ins -/
abbrev Dca := List D → (R → Prop) → Prop
def views (δ : List Sl) : List R → Option (List D)
  | [] => some []
  | r :: rs => match view δ r with
    | some x => (views δ rs).map (x :: ·)
    | none => none
def CaD (c : Cd) (r : List V → Hp → VK → Prop) (f : Dca) : Prop := ∀ (B G H : Hp) (σ : St) (δ : List Sl) (rs : List R) (vs : List V) (ds : List D) (Ψ : R → Prop) (Q : VK), Frame c.K B G H σ δ → RVs c.K G rs vs → views δ rs = some ds → f ds Ψ →
  (∀ r v G' H', Ψ r → Ex G G' → Ex H H' → Frame c.K B G' H' σ δ → RV c.K B G' H' δ r v → Q v H') → r vs H Q
theorem we_cb {r : List V → Hp → VK → Prop} {f : Dca} {tr : TA} (ho : CaD c r f) (h : WA c p tr δ fun rs δ1 => ∃ ds, views δ1 rs = some ds ∧ f ds fun r => Φ r δ1) : WE c p (tCB r tr) δ Φ := by
  intro B G H σ Q F x k
  refine h B G H σ _ F x fun rs δ1 vs G1 H1 w1 e1 F1 rv1 p1 => ?_
  obtain ⟨ds, hd, hf⟩ := w1
  refine ho B G1 H1 σ δ1 rs vs ds _ _ F1 rv1 hd hf fun r v G' H' q e3 e4 F3 rv3 => ?_
  exact k r δ1 v G' H' q (e1.trans e3) F3 rv3 fun hp => ⟨(p1 hp).1, (p1 hp).2.trans e4⟩
theorem views_cons {δ : List Sl} {r : R} {rs : List R} {ds : List D} (h : views δ (r :: rs) = some ds) : ∃ x es, ds = x :: es ∧ view δ r = some x ∧ views δ rs = some es := by
  unfold views at h
  split at h
  · rename_i x e
    cases q : views δ rs with
    | none => rw [q] at h; cases h
    | some es =>
      rw [q] at h
      cases h
      exact ⟨x, es, rfl, e, rfl⟩
  · cases h
theorem views_nil {δ : List Sl} {ds : List D} (h : views δ [] = some ds) : ds = [] := by cases h; rfl
/-- one argument -/
theorem cad_1 {r : List V → Hp → VK → Prop} {f : Dca} (hf : ∀ ds Ψ, f ds Ψ → ds.length = 1) (h : ∀ (B G H : Hp) (σ : St) (δ : List Sl) (r1 : R) (v : V) (x : D) (Ψ : R → Prop) (Q : VK), Frame c.K B G H σ δ → RW c.K G r1 v → view δ r1 = some x → f [x] Ψ →
    (∀ r v G' H', Ψ r → Ex G G' → Ex H H' → Frame c.K B G' H' σ δ → RV c.K B G' H' δ r v → Q v H') → r [v] H Q) : CaD c r f := by
  intro B G H σ δ rs vs ds Ψ Q F hr hv hd k
  have hl := hf ds Ψ hd
  cases rs with
  | nil => have e := views_nil hv; subst e; cases hl
  | cons r1 rs =>
    obtain ⟨x, es, e, e1, e2⟩ := views_cons hv
    subst e
    obtain ⟨v, vr, e3, h1, h2⟩ := hr
    cases es with
    | cons y ys => cases hl
    | nil =>
      cases rs with
      | cons r2 rs => obtain ⟨y, ys, e4, _⟩ := views_cons e2; cases e4
      | nil =>
        have e5 : vr = [] := h2
        subst e5
        subst e3
        exact h B G H σ δ r1 v x Ψ Q F h1 e1 hd k
theorem cad_2 {r : List V → Hp → VK → Prop} {f : Dca} (hf : ∀ ds Ψ, f ds Ψ → ds.length = 2) (h : ∀ (B G H : Hp) (σ : St) (δ : List Sl) (r1 r2 : R) (v w : V) (x y : D) (Ψ : R → Prop) (Q : VK), Frame c.K B G H σ δ → RW c.K G r1 v → RW c.K G r2 w → view δ r1 = some x → view δ r2 = some y → f [x, y] Ψ →
    (∀ r v G' H', Ψ r → Ex G G' → Ex H H' → Frame c.K B G' H' σ δ → RV c.K B G' H' δ r v → Q v H') → r [v, w] H Q) : CaD c r f := by
  intro B G H σ δ rs vs ds Ψ Q F hr hv hd k
  have hl := hf ds Ψ hd
  cases rs with
  | nil => have e := views_nil hv; subst e; cases hl
  | cons r1 rs =>
    obtain ⟨x, es, e, e1, e2⟩ := views_cons hv
    subst e
    obtain ⟨v, vr, e3, h1, h2⟩ := hr
    cases rs with
    | nil => have e := views_nil e2; subst e; cases hl
    | cons r2 rs =>
      obtain ⟨y, ys, e4, e5, e6⟩ := views_cons e2
      subst e4
      obtain ⟨w, wr, e7, h3, h4⟩ := h2
      cases ys with
      | cons _ _ => cases hl
      | nil =>
        cases rs with
        | cons r3 rs => obtain ⟨_, _, e4, _⟩ := views_cons e6; cases e4
        | nil =>
          have e8 : wr = [] := h4
          subst e8
          subst e7
          subst e3
          exact h B G H σ δ r1 r2 v w x y Ψ Q F h1 h3 e1 e5 hd k
end
end DL

/-! DL2: statements, loops, comprehensions, defs. -/
namespace DL
open PySem PySem.Spec PyProof.Rows L2
open Evl (Ex)
section
variable {c : Cd} {p : Bool} {δ : List Sl} {te ta tb : TE} {E : En} {t u : TS} {tt : TT} {g : TG}
theorem ws_seq (h : WS c t δ { E with nx := fun δ' => WS c u δ' E }) : WS c (tSeq t u) δ E := by
  intro B G H σ D F x e
  exact h B G H σ { D with nx := u D } F x ⟨fun δ' σ' G' H' w eG F' => w B G' H' σ' D F' (c.mono _ _ _ eG x) (e.mono eG), e.rt, e.bk, e.ct⟩
theorem ws_next (h : E.nx δ) : WS c tNext δ E := fun B G H σ D F x e => e.nx δ σ G H h (Ex.refl G) F
theorem ws_break (h : E.bk δ) : WS c tBreak δ E := fun B G H σ D F x e => e.bk δ σ G H h (Ex.refl G) F
theorem ws_cont (h : E.ct δ) : WS c tCont δ E := fun B G H σ D F x e => e.ct δ σ G H h (Ex.refl G) F
theorem ws_drop (h : WE c p te δ fun _ δ1 => E.nx δ1) : WS c (tDrop te) δ E := fun B G H σ D F x e =>
  h B G H σ _ F x fun r δ1 v G1 H1 w e1 F1 rv p1 => e.nx δ1 σ G1 H1 w e1 F1
theorem ws_ret (h : WE c p te δ E.rt) : WS c (tRet te) δ E := fun B G H σ D F x e =>
  h B G H σ _ F x fun r δ1 v G1 H1 w e1 F1 rv p1 => e.rt r δ1 v σ G1 H1 w e1 F1 rv
theorem ws_retN (h : E.rt (.d .non) δ) : WS c tRetN δ E := fun B G H σ D F x e => e.rt _ δ .non σ G H h (Ex.refl G) F (rep_non (K := c.K) (G := G))
theorem ws_if (h : WT c p tt δ fun b δ1 => (b = true → WS c t δ1 E) ∧ (b = false → WS c u δ1 E)) : WS c (tIfS tt t u) δ E := by
  intro B G H σ D F x e
  refine h B G H σ _ F x fun b δ1 G1 H1 w e1 F1 p1 => ?_
  cases b with
  | true => exact w.1 rfl B G1 H1 σ D F1 (c.mono _ _ _ e1 x) (e.mono e1)
  | false => exact w.2 rfl B G1 H1 σ D F1 (c.mono _ _ _ e1 x) (e.mono e1)
theorem ws_asg (h : WE c p te δ fun r δ1 => WG c g r δ1 E.nx) : WS c (tAsg te g) δ E := by
  intro B G H σ D F x e
  refine h B G H σ _ F x fun r δ1 v G1 H1 w e1 F1 rv p1 => ?_
  exact w B G1 H1 σ v _ F1 (c.mono _ _ _ e1 x) rv fun δ' σ' G' H' q e2 F2 => e.nx δ' σ' G' H' q (e1.trans e2) F2
/-- what a slot holds behind a store -/
def slOf : R → Option Sl
  | .d x => some (.d x)
  | .own a x => some (.own a x)
  | .deep a x gs => some (.deep a x gs)
  | .bor _ _ => none
theorem frame_set {K : PySem.W.Frag} {B G H : Hp} {σ : St} {δ : List Sl} {r : R} {v : V} {s : Sl} {i : Nat} (F : Frame K B G H σ δ) (h : RV K B G H δ r v) (e : slOf r = some s) : Frame K B G H (σ.set i (some v)) (δ.set i s) := by
  cases r with
  | d x =>
    cases e
    have sub := owned_set_no (δ := δ) (i := i) (s := .d x) rfl
    exact ⟨F.exB, F.exG, F.dis, F.sl.set i ⟨v, rfl, h⟩, fun a ha => F.own a (sub.subset ha), F.nd.sublist sub⟩
  | own a x =>
    cases e
    obtain ⟨e1, h1, h2, h3, h4⟩ := h
    subst e1
    refine ⟨F.exB, F.exG, F.dis, F.sl.set i ⟨rfl, h1⟩, fun b hb => ?_, nodup_set_own F.nd h4⟩
    rcases owned_set_own hb with q | q
    · subst q; exact ⟨h2, h3⟩
    · exact F.own b q
  | deep a x gs =>
    cases e
    obtain ⟨e1, h1, h2, h3, h4⟩ := h
    subst e1
    refine ⟨F.exB, F.exG, F.dis, F.sl.set i ⟨rfl, h1, h2⟩, fun b hb => ?_, nodup_set F.nd h4 fun b hb => (h3 b hb).2.2⟩
    rcases owned_set_in hb with q | q
    · exact ⟨(h3 b q).1, (h3 b q).2.1⟩
    · exact F.own b q
  | bor j a => cases e
theorem wg_name {r : R} {i : Nat} {s : Sl} {Φ : List Sl → Prop} (e : slOf r = some s) (h : Φ (δ.set i s)) : WG c (gName i) r δ Φ := fun B G H σ v Q F x rv k =>
  k _ _ G H h (Ex.refl G) (frame_set F rv e)
/-- a new object is told as frozen, then handed on -/
theorem wg_frz {r : R} {Φ : List Sl → Prop} (h : WG c g (frz r) δ Φ) : WG c g r δ Φ := by
  intro B G H σ v Q F x rv k
  cases r with
  | d y => exact h B G H σ v Q F x rv k
  | bor i a => exact h B G H σ v Q F x rv k
  | deep a y gs => exact h B G H σ v Q F x rv k
  | own a y =>
    obtain ⟨G1, e1, F1, r1⟩ := rv.weak F
    exact h B G1 H σ v Q F1 (c.mono _ _ _ e1 x) r1 fun δ' σ' G' H' q e2 F2 => k δ' σ' G' H' q (e1.trans e2) F2
theorem we_frz {Φ : R → List Sl → Prop} (h : WE c p te δ fun r δ' => Φ (frz r) δ') : WE c p te δ fun r δ' => Φ r δ' ∨ Φ (frz r) δ' := we_mono h fun _ _ w => .inr w
/-- several targets -/
def WGs (c : Cd) (g : TGs) (xs : List D) (δ : List Sl) (Φ : List Sl → Prop) : Prop :=
  ∀ (B G H : Hp) (σ : St) (vs : List V) (Q : St → Hp → Prop), Frame c.K B G H σ δ → c.xr B G → Reps c.K G xs vs →
    (∀ δ' σ' G' H', Φ δ' → Ex G G' → Frame c.K B G' H' σ' δ' → Q σ' H') → g vs σ H Q
theorem wgs_nil {Φ : List Sl → Prop} (h : Φ δ) : WGs c gNil [] δ Φ := fun B G H σ vs Q F x rv k => by
  unfold Reps at rv
  exact ⟨rv, k δ σ G H h (Ex.refl G) F⟩
theorem wgs_cons {gs : TGs} {x : D} {xs : List D} {Φ : List Sl → Prop} (h : WG c g (.d x) δ fun δ1 => WGs c gs xs δ1 Φ) : WGs c (gCons g gs) (x :: xs) δ Φ := fun B G H σ vs Q F z rv k => by
  unfold Reps at rv
  obtain ⟨v, vr, e, h1, h2⟩ := rv
  refine ⟨v, vr, e, h B G H σ v _ F z h1 fun δ1 σ1 G1 H1 q e1 F1 => ?_⟩
  exact q B G1 H1 σ1 vr Q F1 (c.mono _ _ _ e1 z) (h2.mono e1) fun δ' σ' G' H' q e2 F2 => k δ' σ' G' H' q (e1.trans e2) F2
theorem wg_tup {gs : TGs} {n : Nat} {xs : List D} {Φ : List Sl → Prop} (hn : xs.length = n) (h : WGs c gs xs δ Φ) : WG c (gTup c.K n gs) (.d (.tup xs)) δ Φ := fun B G H σ v Q F z rv k => by
  have rv' : Rep c.K G (.tup xs) v := rv
  unfold Rep at rv'
  obtain ⟨a, ys, e, h1, h2⟩ := rv'
  exact ⟨a, ys, e, SqT.of (F.exG _ _ h1), (reps_length h2).trans hn, h B G H σ ys Q F z h2 k⟩
/-- a, b = x, y -/
theorem ws_par {i j : Nat} {tr : TA} (h : WA c p tr δ fun rs δ1 => ∃ x y, rs = [.d x, .d y] ∧ E.nx ((δ1.set i (.d x)).set j (.d y))) : WS c (tPar i j tr) δ E := by
  intro B G H σ D F x e
  refine h B G H σ _ F x fun rs δ1 vs G1 H1 w e1 F1 rv p1 => ?_
  obtain ⟨x, y, er, w⟩ := w
  subst er
  obtain ⟨v, vr, e2, h1, v2, vr2, e3, h2, e4⟩ := rv
  have e5 : vr2 = [] := e4
  subst e5
  subst e3
  subst e2
  refine ⟨v, v2, rfl, e.nx _ _ G1 H1 w e1 ?_⟩
  exact frame_set (r := .d y) (frame_set (r := .d x) F1 h1 rfl) h2 rfl
/-- x op= e, ints or texts -/
theorem ws_aug {i : Nat} {ti : TIp} {f : Dop} (ho : OpD c ti f) (h : ∃ r1, rd δ i = some r1 ∧ WE c p te δ fun r2 δ2 => ∃ x y, view δ2 (frz r1) = some x ∧ view δ2 (frz r2) = some y ∧ f x y fun r => ∃ s, slOf r = some s ∧ E.nx (δ2.set i s)) : WS c (tAug i te ti) δ E := by
  intro B G H σ D F x e
  obtain ⟨r1, hr, h⟩ := h
  have base : ∃ v1, σ[i]? = some (some v1) ∧ RV c.K B G H δ r1 v1 := by
    unfold rd at hr
    split at hr
    · rename_i y ey
      obtain ⟨ov, e1, v, e2, hv⟩ := F.get ey
      subst e2
      cases hr
      exact ⟨v, e1, hv⟩
    · rename_i a y ey
      obtain ⟨ov, e1, e2, hv⟩ := F.get ey
      subst e2
      cases hr
      exact ⟨_, e1, rfl, y, view_bor ey⟩
    · rename_i a y gs ey
      obtain ⟨ov, e1, e2, hv⟩ := F.get ey
      subst e2
      cases hr
      exact ⟨_, e1, rfl, y, view_deep ey⟩
    · cases hr
  obtain ⟨v1, hσ, rv1⟩ := base
  refine ⟨v1, hσ, ?_⟩
  obtain ⟨G1, e1, F1, rw1⟩ := rv1.weak F
  refine h B G1 H σ _ F1 (c.mono _ _ _ e1 x) fun r2 δ2 v2 G2 H2 w2 e2 F2 rv2 p2 => ?_
  obtain ⟨G2', e2', F2', rw2⟩ := rv2.weak F2
  obtain ⟨x', y', hx, hy, hd⟩ := w2
  refine ho B G2' H2 σ δ2 _ _ v1 v2 x' y' _ _ F2' (rw1.mono (e2.trans e2')) rw2 hx hy hd fun r v G' H' q e3 e4 F3 rv3 => ?_
  obtain ⟨s, hs, q⟩ := q
  exact e.nx _ _ G' H' q (e1.trans ((e2.trans e2').trans e3)) (frame_set F3 rv3 hs)
theorem owned_mem : ∀ {δ : List Sl} {b : Addr}, b ∈ owned δ → ∃ (j : Nat) (s : Sl), δ[j]? = some s ∧ b ∈ ads s
  | [], b, h => by cases h
  | s :: δ, b, h => by
    rw [owned_cons] at h
    rcases List.mem_append.mp h with q | q
    · exact ⟨0, s, rfl, q⟩
    · obtain ⟨j, t, e, m⟩ := owned_mem q
      exact ⟨j + 1, t, by simpa using e, m⟩
theorem owned_uniq : ∀ {δ : List Sl} {i j : Nat} {s t : Sl} {b : Addr}, (owned δ).Nodup → δ[i]? = some s → b ∈ ads s → δ[j]? = some t → b ∈ ads t → i = j
  | [], i, j, s, t, b, _, h, _, _, _ => by simp at h
  | u :: δ, i, j, s, t, b, nd, h1, h2, h3, h4 => by
    rw [owned_cons] at nd
    have nd' := List.nodup_append.mp nd
    cases i with
    | zero =>
      cases j with
      | zero => rfl
      | succ j =>
        have e : u = s := by simpa using h1
        subst e
        exact absurd rfl (nd'.2.2 b h2 b (owned_getA (δ := δ) (i := j) (by simpa using h3) h4))
    | succ i =>
      cases j with
      | zero =>
        have e : u = t := by simpa using h3
        subst e
        exact absurd rfl (nd'.2.2 b h4 b (owned_getA (δ := δ) (i := i) (by simpa using h1) h2))
      | succ j =>
        have ih := owned_uniq (δ := δ) (i := i) (j := j) nd'.2.1 (by simpa using h1) h2 (by simpa using h3) h4
        rw [ih]
theorem not_owned_set {δ : List Sl} {i : Nat} {b : Addr} {s t : Sl} (nd : (owned δ).Nodup) (e : δ[i]? = some s) (hb : b ∈ ads s) (ht : ads t = []) : b ∉ owned (δ.set i t) := by
  intro z
  obtain ⟨j, u, e1, m⟩ := owned_mem z
  by_cases q : i = j
  · subst q
    have hl : i < δ.length := (List.getElem?_eq_some_iff.mp e).1
    rw [List.getElem?_set_self hl] at e1
    cases e1
    rw [ht] at m
    cases m
  · rw [List.getElem?_set_ne q] at e1
    exact q (owned_uniq nd e hb e1 m)
theorem owned_set_eq : ∀ {δ : List Sl} {i : Nat} {s t : Sl}, ads s = ads t → owned (δ.set i s) = owned (δ.set i t)
  | [], i, s, t, _ => rfl
  | u :: δ, 0, s, t, e => by
    show owned (s :: δ) = owned (t :: δ)
    rw [owned_cons, owned_cons, e]
  | u :: δ, i + 1, s, t, e => by
    show owned (u :: δ.set i s) = owned (u :: δ.set i t)
    rw [owned_cons, owned_cons, owned_set_eq (δ := δ) e]
/-- a slot's object is frozen from here on -/
theorem frame_frz {K : PySem.W.Frag} {B G H : Hp} {σ : St} {δ : List Sl} {i : Nat} {a : Addr} {x : D} (F : Frame K B G H σ δ) (e : δ[i]? = some (.own a x)) : ∃ G1, Ex G G1 ∧ Frame K B G1 H σ (δ.set i (.d x)) := by
  obtain ⟨ov, h1, h2, h3⟩ := F.get e
  subst h2
  obtain ⟨o, ho⟩ := h3.there
  obtain ⟨hB, hG⟩ := F.own a (owned_get e)
  have hn : a ∉ owned (δ.set i (.d x)) := not_owned_set F.nd e (List.mem_singleton.mpr rfl) rfl
  have F0 : Frame K B G H σ (δ.set i .no) := by
    have sub0 := owned_set_no (δ := δ) (i := i) (s := .no) rfl
    exact ⟨F.exB, F.exG, F.dis, F.sl.setS (ov := none) i (fun _ _ => trivial), fun b hb => F.own b (sub0.subset hb), F.nd.sublist sub0⟩
  have e0 : owned (δ.set i .no) = owned (δ.set i (.d x)) := owned_set_eq rfl
  have F1 := F0.freeze ho hB hG (by rw [e0]; exact hn)
  refine ⟨upd G a o, Ex.new hG, F1.exB, F1.exG, F1.dis, ?_, fun b hb => F1.own b (by rw [e0]; exact hb), by rw [← e0]; exact F1.nd⟩
  have z := F1.sl.set (s := .d x) (ov := some (.ref a)) i ⟨_, rfl, h3.rep ho hG⟩
  rw [List.set_set] at z
  have es : σ.set i (some (.ref a)) = σ := by
    apply List.ext_getElem?
    intro j
    by_cases hj : i = j
    · subst hj
      have hl : i < σ.length := (List.getElem?_eq_some_iff.mp h1).1
      rw [List.getElem?_set_self hl, h1]
    · rw [List.getElem?_set_ne hj]
  rw [es] at z
  exact z
theorem ws_frz (i : Nat) {a : Addr} {x : D} (e : δ[i]? = some (.own a x)) (h : WS c t (δ.set i (.d x)) E) : WS c t δ E := fun B G H σ D F z k => by
  obtain ⟨G1, e1, F1⟩ := frame_frz F e
  exact h B G1 H σ D F1 (c.mono _ _ _ e1 z) (k.mono e1)
/-- what is known of a slot is forgotten -/
theorem frame_forget {K : PySem.W.Frag} {B G H : Hp} {σ : St} {δ : List Sl} (i : Nat) (F : Frame K B G H σ δ) : Frame K B G H σ (δ.set i .no) := by
  have sub0 := owned_set_no (δ := δ) (i := i) (s := .no) rfl
  exact ⟨F.exB, F.exG, F.dis, F.sl.setS (ov := none) i (fun _ _ => trivial), fun b hb => F.own b (sub0.subset hb), F.nd.sublist sub0⟩
theorem ws_forget (i : Nat) (h : WS c t (δ.set i .no) E) : WS c t δ E := fun B G H σ D F z k => h B G H σ D (frame_forget i F) z k
/-! ### defs -/
abbrev SpD := List Sl → (R → List Sl → Prop) → Prop
def lift (K : PySem.W.Frag) (S : SpD) : Sp := fun vs H Q _ => ∃ B G as, Frame K B G H (vs.map some) as ∧
  S as fun r as' => ∀ v G' H', Ex G G' → Frame K B G' H' (vs.map some) as' → RV K B G' H' as' r v → Q v H'
/-- the arguments' words: a lent object its slot's -/
def toAs (δ : List Sl) : List R → Option (List Sl)
  | [] => some []
  | .d x :: rs => (toAs δ rs).map (.d x :: ·)
  | .bor i a :: rs => match δ[i]? with
    | some (.own b x) => if a = b then (toAs δ rs).map (.own a x :: ·) else none
    | some (.deep b x gs) => if a = b then (toAs δ rs).map (.deep a x gs :: ·) else none
    | _ => none
  | .own _ _ :: _ => none
  | .deep _ _ _ :: _ => none
def clr (δ : List Sl) : List R → List Sl
  | [] => δ
  | .bor i _ :: rs => (clr δ rs).set i .no
  | _ :: rs => clr δ rs
def fill (δ : List Sl) : List R → List Sl → List Sl
  | .bor i _ :: rs, s :: as => (fill δ rs as).set i s
  | _ :: rs, _ :: as => fill δ rs as
  | _, _ => δ
def backAs (δ : List Sl) (rs : List R) (as : List Sl) : List Sl := fill (clr δ rs) rs as
def noBor : List R → Bool
  | [] => true
  | .d _ :: rs => noBor rs
  | _ :: _ => false
/-- what a call hands back: as data or a new object -/
def ownOut : R → Prop
  | .bor _ _ => False
  | _ => True
/-- the addresses that are lent -/
def lent (δ : List Sl) : List R → List Addr
  | [] => []
  | .bor i _ :: rs => (match δ[i]? with
    | some s => ads s
    | none => []) ++ lent δ rs
  | _ :: rs => lent δ rs
section
variable {K : PySem.W.Frag} {B G G' H H' : Hp} {σ : St}
theorem toAs_owned : ∀ {rs : List R} {as : List Sl}, toAs δ rs = some as → owned as = lent δ rs
  | [], as, e => by cases e; rfl
  | .d x :: rs, as, e => by
    unfold toAs at e
    cases q : toAs δ rs with
    | none => rw [q] at e; cases e
    | some es => rw [q] at e; cases e; have ih := toAs_owned q; exact ih
  | .own a x :: rs, as, e => by cases e
  | .deep a x gs :: rs, as, e => by cases e
  | .bor i a :: rs, as, e => by
    unfold toAs at e
    unfold lent
    split at e
    · rename_i b x hx
      split at e
      · rename_i q2
        subst q2
        cases q : toAs δ rs with
        | none => rw [q] at e; cases e
        | some es =>
          rw [q] at e
          cases e
          rw [hx, owned_cons, toAs_owned q]
      · cases e
    · rename_i b x gs hx
      split at e
      · rename_i q2
        subst q2
        cases q : toAs δ rs with
        | none => rw [q] at e; cases e
        | some es =>
          rw [q] at e
          cases e
          rw [hx, owned_cons, toAs_owned q]
      · cases e
    · cases e
theorem toAs_at (F : Frame K B G H σ δ) : ∀ {rs : List R} {as : List Sl} {i : Nat} {a : Addr}, toAs δ rs = some as → R.bor i a ∈ rs → (∃ s, δ[i]? = some s) ∧ σ[i]? = some (some (.ref a))
  | [], as, i, a, e, h => by cases h
  | r :: rs, as, i, a, e, h => by
    rcases List.mem_cons.mp h with q | q
    · subst q
      unfold toAs at e
      split at e
      · rename_i b x hx
        split at e
        · rename_i q2
          subst q2
          obtain ⟨ov, h1, h2, _⟩ := F.get hx
          exact ⟨⟨_, hx⟩, by rw [h1, h2]⟩
        · cases e
      · rename_i b x gs hx
        split at e
        · rename_i q2
          subst q2
          obtain ⟨ov, h1, h2, _⟩ := F.get hx
          exact ⟨⟨_, hx⟩, by rw [h1, h2]⟩
        · cases e
      · cases e
    · cases r with
      | d x =>
        unfold toAs at e
        cases q2 : toAs δ rs with
        | none => rw [q2] at e; cases e
        | some es => exact toAs_at F q2 q
      | own b x => cases e
      | deep b x gs => cases e
      | bor j b =>
        unfold toAs at e
        split at e
        · split at e
          · cases q2 : toAs δ rs with
            | none => rw [q2] at e; cases e
            | some es => exact toAs_at F q2 q
          · cases e
        · split at e
          · cases q2 : toAs δ rs with
            | none => rw [q2] at e; cases e
            | some es => exact toAs_at F q2 q
          · cases e
        · cases e
theorem toAs_sl (F : Frame K B G H σ δ) : ∀ {rs : List R} {as : List Sl} {vs : List V}, toAs δ rs = some as → RVs K G rs vs → SlsR K G H as (vs.map some)
  | [], as, vs, e, h => by
    cases e
    have e1 : vs = [] := h
    subst e1
    exact (rfl : ([] : St) = [])
  | .d x :: rs, as, vs, e, h => by
    obtain ⟨v, vr, e1, h1, h2⟩ := h
    subst e1
    unfold toAs at e
    cases q : toAs δ rs with
    | none => rw [q] at e; cases e
    | some es =>
      rw [q] at e
      cases e
      exact ⟨some v, vr.map some, rfl, ⟨v, rfl, h1⟩, toAs_sl F q h2⟩
  | .own a x :: rs, as, vs, e, h => by cases e
  | .deep a x gs :: rs, as, vs, e, h => by cases e
  | .bor i a :: rs, as, vs, e, h => by
    obtain ⟨v, vr, e1, h1, h2⟩ := h
    subst e1
    have e2 : v = .ref a := h1
    subst e2
    unfold toAs at e
    split at e
    · rename_i b x hx
      split at e
      · rename_i q2
        subst q2
        cases q : toAs δ rs with
        | none => rw [q] at e; cases e
        | some es =>
          rw [q] at e
          cases e
          obtain ⟨ov, _, _, h3⟩ := F.get hx
          exact ⟨some (.ref a), vr.map some, rfl, ⟨rfl, h3⟩, toAs_sl F q h2⟩
      · cases e
    · rename_i b x gs hx
      split at e
      · rename_i q2
        subst q2
        cases q : toAs δ rs with
        | none => rw [q] at e; cases e
        | some es =>
          rw [q] at e
          cases e
          obtain ⟨ov, _, _, h3⟩ := F.get hx
          exact ⟨some (.ref a), vr.map some, rfl, ⟨rfl, h3⟩, toAs_sl F q h2⟩
      · cases e
    · cases e
theorem clr_no {rs : List R} (h : noBor rs = true) : clr δ rs = δ := by
  induction rs with
  | nil => rfl
  | cons r rs ih =>
    cases r with
    | d x => exact ih h
    | own a x => cases h
    | deep a x gs => cases h
    | bor i a => cases h
theorem fill_no {rs : List R} (h : noBor rs = true) : ∀ as, fill δ rs as = δ := by
  induction rs with
  | nil => intro as; cases as <;> rfl
  | cons r rs ih =>
    intro as
    cases r with
    | d x =>
      cases as with
      | nil => rfl
      | cons s as => exact ih h as
    | own a x => cases h
    | deep a x gs => cases h
    | bor i a => cases h
theorem lent_no {rs : List R} (h : noBor rs = true) : lent δ rs = [] := by
  induction rs with
  | nil => rfl
  | cons r rs ih =>
    cases r with
    | d x => exact ih h
    | own a x => cases h
    | deep a x gs => cases h
    | bor i a => cases h
theorem clr_sub : ∀ (rs : List R), (owned (clr δ rs)).Sublist (owned δ)
  | [] => List.Sublist.refl _
  | .d x :: rs => clr_sub rs
  | .own a x :: rs => clr_sub rs
  | .deep a x gs :: rs => clr_sub rs
  | .bor i a :: rs => (owned_set_no rfl).trans (clr_sub rs)
theorem clr_at : ∀ (rs : List R) {j : Nat}, (clr δ rs)[j]? = some .no ∨ (clr δ rs)[j]? = δ[j]?
  | [], j => .inr rfl
  | .d x :: rs, j => clr_at rs
  | .own a x :: rs, j => clr_at rs
  | .deep a x gs :: rs, j => clr_at rs
  | .bor i a :: rs, j => by
    show ((clr δ rs).set i .no)[j]? = some .no ∨ ((clr δ rs).set i .no)[j]? = δ[j]?
    by_cases h : i = j
    · subst h
      by_cases hl : i < (clr δ rs).length
      · exact .inl (List.getElem?_set_self hl)
      · rw [List.getElem?_set, if_pos rfl, if_neg hl]
        rcases clr_at rs (j := i) with q | q
        · exact absurd (List.getElem?_eq_some_iff.mp q).1 hl
        · rw [← q]
          exact .inr (List.getElem?_eq_none (by omega)).symm
    · rw [List.getElem?_set_ne h]
      exact clr_at rs
theorem clr_bor : ∀ {rs : List R} {i : Nat} {a : Addr} {s : Sl}, R.bor i a ∈ rs → (clr δ rs)[i]? = some s → s = .no
  | [], i, a, s, h, _ => by cases h
  | r :: rs, i, a, s, h, e => by
    rcases List.mem_cons.mp h with q | q
    · subst q
      have e' : ((clr δ rs).set i .no)[i]? = some s := e
      have hl : i < (clr δ rs).length := by simpa using (List.getElem?_eq_some_iff.mp e').1
      rw [List.getElem?_set_self hl] at e'
      cases e'
      rfl
    · cases r with
      | d x => exact clr_bor q e
      | own b x => exact clr_bor q e
      | deep b x gs => exact clr_bor q e
      | bor j b =>
        have e' : ((clr δ rs).set j .no)[i]? = some s := e
        by_cases hj : j = i
        · subst hj
          have hl : j < (clr δ rs).length := by simpa using (List.getElem?_eq_some_iff.mp e').1
          rw [List.getElem?_set_self hl] at e'
          cases e'
          rfl
        · rw [List.getElem?_set_ne hj] at e'
          exact clr_bor q e'
theorem not_clr (nd : (owned δ).Nodup) {rs : List R} {i : Nat} {a b : Addr} {s : Sl} (e : δ[i]? = some s) (hb : b ∈ ads s) (h : R.bor i a ∈ rs) : b ∉ owned (clr δ rs) := by
  intro z
  obtain ⟨j, t, e1, m⟩ := owned_mem z
  rcases clr_at rs (j := j) with q | q
  · rw [q] at e1; cases e1; cases m
  · have e2 : δ[j]? = some t := by rw [← q]; exact e1
    have hij := owned_uniq nd e hb e2 m
    subst hij
    have := clr_bor h e1
    subst this
    cases m
theorem lent_mem : ∀ {rs : List R} {b : Addr}, b ∈ lent δ rs → ∃ i a s, R.bor i a ∈ rs ∧ δ[i]? = some s ∧ b ∈ ads s
  | [], b, h => by cases h
  | .d x :: rs, b, h => by obtain ⟨i, a, s, e, h⟩ := lent_mem (rs := rs) h; exact ⟨i, a, s, List.mem_cons_of_mem _ e, h⟩
  | .own c x :: rs, b, h => by obtain ⟨i, a, s, e, h⟩ := lent_mem (rs := rs) h; exact ⟨i, a, s, List.mem_cons_of_mem _ e, h⟩
  | .deep c x gs :: rs, b, h => by obtain ⟨i, a, s, e, h⟩ := lent_mem (rs := rs) h; exact ⟨i, a, s, List.mem_cons_of_mem _ e, h⟩
  | .bor i a :: rs, b, h => by
    unfold lent at h
    rcases List.mem_append.mp h with q | q
    · split at q
      · rename_i s hs; exact ⟨i, a, s, List.mem_cons_self, hs, q⟩
      · cases q
    · obtain ⟨i, a, s, e, h⟩ := lent_mem (rs := rs) q; exact ⟨i, a, s, List.mem_cons_of_mem _ e, h⟩
/-- the slots filled with what the call has left -/
theorem fill_owned : ∀ {rs : List R} {as : List Sl} {b : Addr}, b ∈ owned (fill δ rs as) → b ∈ owned δ ∨ b ∈ owned as
  | [], as, b, hb => by cases as <;> exact .inl hb
  | r :: rs, [], b, hb => by cases r <;> exact .inl hb
  | r :: rs, s :: as, b, hb => by
    have step : b ∈ owned (fill δ rs as) → b ∈ owned δ ∨ b ∈ owned (s :: as) := fun hb => by
      rcases fill_owned hb with q | q
      · exact .inl q
      · exact .inr (by rw [owned_cons]; exact List.mem_append_right _ q)
    cases r with
    | d x => exact step hb
    | own a x => exact step hb
    | deep a x gs => exact step hb
    | bor i a =>
      have hb' : b ∈ owned ((fill δ rs as).set i s) := hb
      rcases owned_set_in hb' with q | q
      · exact .inr (by rw [owned_cons]; exact List.mem_append_left _ q)
      · exact step q
theorem fill_nodup : ∀ {rs : List R} {as : List Sl}, (owned δ).Nodup → (owned as).Nodup → (∀ a ∈ owned as, a ∉ owned δ) → (owned (fill δ rs as)).Nodup
  | [], as, n, n2, dj => by cases as <;> exact n
  | r :: rs, [], n, n2, dj => by cases r <;> exact n
  | r :: rs, s :: as, n, n2, dj => by
    rw [owned_cons] at n2 dj
    have n2' := List.nodup_append.mp n2
    have ih := fill_nodup (rs := rs) (as := as) n n2'.2.1 (fun b hb => dj b (List.mem_append_right _ hb))
    cases r with
    | d x => exact ih
    | own a x => exact ih
    | deep a x gs => exact ih
    | bor i a =>
      refine nodup_set ih n2'.1 fun b hb z => ?_
      rcases fill_owned z with q | q
      · exact dj b (List.mem_append_left _ hb) q
      · exact n2'.2.2 b hb b q rfl
theorem fill_sl : ∀ {rs : List R} {as : List Sl} {vs : List V}, RVs K G rs vs → SlsR K G' H' as (vs.map some) → (∀ i a, R.bor i a ∈ rs → σ[i]? = some (some (.ref a))) → SlsR K G' H' δ σ → SlsR K G' H' (fill δ rs as) σ
  | [], as, vs, h, h', hb, hs => by cases as <;> exact hs
  | r :: rs, [], vs, h, h', hb, hs => by cases r <;> exact hs
  | .d x :: rs, s :: as, vs, h, h', hb, hs => by
    obtain ⟨v, vr, e1, h1, h2⟩ := h
    subst e1
    obtain ⟨ov, σr, e2, h3, h4⟩ := h'
    cases e2
    have ih := fill_sl h2 h4 (fun i a m => hb i a (List.mem_cons_of_mem _ m)) hs
    exact ih
  | .own a x :: rs, s :: as, vs, h, h', hb, hs => by
    obtain ⟨v, vr, e1, h1, h2⟩ := h
    exact h1.elim
  | .deep a x gs :: rs, s :: as, vs, h, h', hb, hs => by
    obtain ⟨v, vr, e1, h1, h2⟩ := h
    subst e1
    obtain ⟨ov, σr, e2, h3, h4⟩ := h'
    cases e2
    have ih := fill_sl h2 h4 (fun i a m => hb i a (List.mem_cons_of_mem _ m)) hs
    exact ih
  | .bor i a :: rs, s :: as, vs, h, h', hb, hs => by
    obtain ⟨v, vr, e1, h1, h2⟩ := h
    subst e1
    have e3 : v = .ref a := h1
    subst e3
    obtain ⟨ov, σr, e2, h3, h4⟩ := h'
    cases e2
    have ih := fill_sl h2 h4 (fun i a m => hb i a (List.mem_cons_of_mem _ m)) hs
    refine ih.setS (ov := none) i fun ov e => ?_
    rw [hb i a List.mem_cons_self] at e
    cases e
    exact h3
theorem clr_sl : ∀ (rs : List R), SlsR K G H (clr δ rs) σ → (∀ a ∈ owned (clr δ rs), H' a = H a) → Ex G G' → SlsR K G' H' (clr δ rs) σ := fun rs h e eG => h.ex eG e
theorem clr_slR (h : SlsR K G H δ σ) : ∀ (rs : List R), SlsR K G H (clr δ rs) σ
  | [] => h
  | .d x :: rs => clr_slR h rs
  | .own a x :: rs => clr_slR h rs
  | .deep a x gs :: rs => clr_slR h rs
  | .bor i a :: rs => (clr_slR h rs).setS (ov := none) i fun _ _ => trivial
/-- what was lent, given back as it was -/
theorem fill_other : ∀ {rs : List R} {as : List Sl} {ε : List Sl} {j : Nat}, (∀ a, R.bor j a ∉ rs) → (fill ε rs as)[j]? = ε[j]?
  | [], as, ε, j, h => by cases as <;> rfl
  | r :: rs, [], ε, j, h => by cases r <;> rfl
  | r :: rs, s :: as, ε, j, h => by
    have ih := fill_other (rs := rs) (as := as) (ε := ε) (j := j) fun a m => h a (List.mem_cons_of_mem _ m)
    cases r with
    | d x => exact ih
    | own a x => exact ih
    | deep a x gs => exact ih
    | bor i a =>
      show ((fill ε rs as).set i s)[j]? = _
      rw [List.getElem?_set_ne (fun e => by subst e; exact h a List.mem_cons_self)]
      exact ih
theorem clr_other : ∀ {rs : List R} {j : Nat}, (∀ a, R.bor j a ∉ rs) → (clr δ rs)[j]? = δ[j]?
  | [], j, h => rfl
  | r :: rs, j, h => by
    have ih := clr_other (rs := rs) (j := j) fun a m => h a (List.mem_cons_of_mem _ m)
    cases r with
    | d x => exact ih
    | own a x => exact ih
    | deep a x gs => exact ih
    | bor i a =>
      show ((clr δ rs).set i .no)[j]? = _
      rw [List.getElem?_set_ne (fun e => by subst e; exact h a List.mem_cons_self)]
      exact ih
theorem fill_size : ∀ (rs : List R) (as : List Sl) (δ : List Sl), (fill δ rs as).length = δ.length
  | [], as, δ => by cases as <;> rfl
  | r :: rs, [], δ => by cases r <;> rfl
  | r :: rs, s :: as, δ => by
    cases r with
    | d x => exact fill_size rs as δ
    | own a x => exact fill_size rs as δ
    | deep a x gs => exact fill_size rs as δ
    | bor i a => show ((fill δ rs as).set i s).length = _; rw [List.length_set, fill_size rs as δ]
theorem clr_size : ∀ rs : List R, (clr δ rs).length = δ.length
  | [] => rfl
  | r :: rs => by
    cases r with
    | d x => exact clr_size rs
    | own a x => exact clr_size rs
    | deep a x gs => exact clr_size rs
    | bor i a => show ((clr δ rs).set i .no).length = _; rw [List.length_set, clr_size rs]
theorem fill_back : ∀ {rs : List R} {as : List Sl} {ε : List Sl} {j : Nat} {a : Addr}, toAs δ rs = some as → ε.length = δ.length → R.bor j a ∈ rs → (fill ε rs as)[j]? = δ[j]?
  | [], as, ε, j, a, e, hl, h => by cases h
  | r :: rs, as, ε, j, a, e, hl, h => by
    cases r with
    | d x =>
      unfold toAs at e
      cases q : toAs δ rs with
      | none => rw [q] at e; cases e
      | some es =>
        rw [q] at e
        cases e
        rcases List.mem_cons.mp h with z | z
        · cases z
        · exact fill_back (rs := rs) (as := es) (ε := ε) (j := j) (a := a) q hl z
    | own b x => cases e
    | deep b x gs => cases e
    | bor i b =>
      have main : ∀ (s : Sl) (es : List Sl), toAs δ rs = some es → δ[i]? = some s → (fill ε (.bor i b :: rs) (s :: es))[j]? = δ[j]? := fun s es q hs => by
        show ((fill ε rs es).set i s)[j]? = _
        by_cases hj : i = j
        · subst hj
          have hi := (List.getElem?_eq_some_iff.mp hs).1
          rw [List.getElem?_set_self (by rw [fill_size, hl]; exact hi), hs]
        · rw [List.getElem?_set_ne hj]
          rcases List.mem_cons.mp h with z | z
          · cases z; exact absurd rfl hj
          · exact fill_back (rs := rs) (as := es) (ε := ε) (j := j) (a := a) q hl z
      unfold toAs at e
      split at e
      · rename_i c x hx
        split at e
        · rename_i q2
          subst q2
          cases q : toAs δ rs with
          | none => rw [q] at e; cases e
          | some es => rw [q] at e; cases e; exact main _ es q hx
        · cases e
      · rename_i c x gs hx
        split at e
        · rename_i q2
          subst q2
          cases q : toAs δ rs with
          | none => rw [q] at e; cases e
          | some es => rw [q] at e; cases e; exact main _ es q hx
        · cases e
      · cases e
theorem toAs_back {rs : List R} {as : List Sl} (h : toAs δ rs = some as) : backAs δ rs as = δ := by
  apply List.ext_getElem?
  intro j
  unfold backAs
  by_cases q : ∃ a, R.bor j a ∈ rs
  · obtain ⟨a, q⟩ := q
    exact fill_back h (clr_size rs) q
  · have q' : ∀ a, R.bor j a ∉ rs := fun a m => q ⟨a, m⟩
    rw [fill_other q', clr_other q']
/-- THE CALL: the callee's frame, and back -/
theorem call_in {rs : List R} {as : List Sl} {vs : List V} (F : Frame K B G H σ δ) (hv : RVs K G rs vs) (hto : toAs δ rs = some as) (nd : (owned as).Nodup) :
    ∃ Bc, Frame K Bc G H (vs.map some) as ∧ ∀ (as' : List Sl) (G' H' : Hp), Ex G G' → Frame K Bc G' H' (vs.map some) as' → Frame K B G' H' σ (backAs δ rs as') ∧ (∀ (r : R) (v : V), ownOut r → RV K Bc G' H' as' r v → RV K B G' H' (backAs δ rs as') r v) ∧ (noBor rs = true → backAs δ rs as' = δ ∧ Ex H H') := by
  have hown := toAs_owned hto
  have hlent : ∀ a ∈ lent δ rs, B a = none ∧ G a = none ∧ a ∉ owned (clr δ rs) := fun a ha => by
    obtain ⟨i, b, s, hi, hx, hm⟩ := lent_mem ha
    exact ⟨(F.own a (owned_getA hx hm)).1, (F.own a (owned_getA hx hm)).2, not_clr F.nd hx hm hi⟩
  have hσ : ∀ i a, R.bor i a ∈ rs → σ[i]? = some (some (.ref a)) := fun i a h => (toAs_at F hto h).2
  let Bc : Hp := fun b => if (G b).isSome = true ∨ b ∈ owned as then none else H b
  have bc_some : ∀ b o, H b = some o → G b = none → b ∉ owned as → Bc b = some o := fun b o h1 h2 h3 => by
    show (if (G b).isSome = true ∨ b ∈ owned as then none else H b) = some o
    rw [if_neg (by rw [h2]; simp [h3])]
    exact h1
  have bc_none : ∀ b, Bc b = none → (G b).isSome = true ∨ b ∈ owned as ∨ H b = none := fun b h => by
    have h' : (if (G b).isSome = true ∨ b ∈ owned as then none else H b) = none := h
    by_cases q : (G b).isSome = true ∨ b ∈ owned as
    · rcases q with q | q
      · exact .inl q
      · exact .inr (.inl q)
    · rw [if_neg q] at h'
      exact .inr (.inr h')
  have bc_H : ∀ b o, Bc b = some o → H b = some o ∧ G b = none ∧ b ∉ owned as := fun b o h => by
    have h' : (if (G b).isSome = true ∨ b ∈ owned as then none else H b) = some o := h
    by_cases q : (G b).isSome = true ∨ b ∈ owned as
    · rw [if_pos q] at h'; cases h'
    · rw [if_neg q] at h'
      refine ⟨h', ?_, fun z => q (.inr z)⟩
      cases e : G b with
      | none => rfl
      | some u => exact absurd (.inl (by rw [e]; rfl)) q
  refine ⟨Bc, ⟨fun b o h => (bc_H b o h).1, F.exG, fun b => ?_, toAs_sl F hto hv, fun a ha => ⟨?_, ?_⟩, nd⟩, fun as' G' H' eG F' => ?_⟩
  · cases e : Bc b with
    | none => exact .inl rfl
    | some o => exact .inr (.inl (bc_H b o e).2.1)
  · cases e : Bc a with
    | none => rfl
    | some o => exact absurd ha (bc_H a o e).2.2
  · rw [hown] at ha
    exact (hlent a ha).2.1
  · -- behind the call
    have keep : ∀ b o, H b = some o → G b = none → b ∉ owned as → H' b = some o ∧ AptV (some o) (G' b) := fun b o h1 h2 h3 => by
      have h4 := bc_some b o h1 h2 h3
      refine ⟨F'.exB b o h4, ?_⟩
      have q := F'.dis b
      rw [h4] at q
      exact q
    have hclr : ∀ a ∈ owned (clr δ rs), (∃ o, H a = some o ∧ ∀ xs, o ≠ .tup xs) ∧ G a = none ∧ B a = none ∧ a ∉ owned as := fun a ha => by
      have ha' := (clr_sub rs).subset ha
      exact ⟨F.obj ha', (F.own a ha').2, (F.own a ha').1, fun z => by rw [hown] at z; exact (hlent a z).2.2 ha⟩
    have sl0 : SlsR K G' H' (clr δ rs) σ := clr_sl (H := H) rs (clr_slR F.sl rs) (fun a ha => by
      obtain ⟨⟨o, h1, _⟩, h2, _, h3⟩ := hclr a ha
      rw [h1, (keep a o h1 h2 h3).1]) eG
    have newB : ∀ b, Bc b = none → G' b = none → B b = none ∧ b ∉ owned (clr δ rs) := fun b h h3 => by
      rcases bc_none b h with q | q | q
      · cases e : G b with
        | none => rw [e] at q; cases q
        | some o => rw [eG b o e] at h3; cases h3
      · rw [hown] at q
        exact ⟨(hlent b q).1, (hlent b q).2.2⟩
      · refine ⟨Evl.fresh_back F.exB q, fun z => ?_⟩
        obtain ⟨⟨o, h5, _⟩, _⟩ := hclr b z
        rw [q] at h5
        cases h5
    have F2 : Frame K B G' H' σ (backAs δ rs as') := by
      refine ⟨fun b o h => ?_, F'.exG, fun b => ?_, fill_sl hv F'.sl hσ sl0, fun a ha => ?_, fill_nodup (F.nd.sublist (clr_sub rs)) F'.nd fun a ha => (newB a (F'.own a ha).1 (F'.own a ha).2).2⟩
      · have h1 := F.exB b o h
        have nl : b ∉ owned as := fun z => by
          rw [hown] at z
          rw [(hlent b z).1] at h
          cases h
        rcases F.dis b with q | q | ⟨xs, q⟩
        · rw [h] at q; cases q
        · exact (keep b o h1 q nl).1
        · have h2 := F.exG b _ q
          rw [h1] at h2
          cases h2
          exact F'.exG b _ (eG b _ q)
      · cases e : B b with
        | none => exact .inl rfl
        | some o =>
          have h1 := F.exB b o e
          have nl : b ∉ owned as := fun z => by
            rw [hown] at z
            rw [(hlent b z).1] at e
            cases e
          rcases F.dis b with q | q | ⟨xs, q⟩
          · rw [e] at q; cases q
          · exact (keep b o h1 q nl).2
          · exact .inr (.inr ⟨xs, eG b _ q⟩)
      · rcases fill_owned ha with q | q2
        · obtain ⟨⟨o, h1, n⟩, h2, h4, h3⟩ := hclr a q
          exact ⟨h4, F'.disN (bc_some a o h1 h2 h3) n⟩
        · exact ⟨(newB a (F'.own a q2).1 (F'.own a q2).2).1, (F'.own a q2).2⟩
    refine ⟨F2, fun r v hr rv => ?_, fun hn => ⟨?_, fun b o h => ?_⟩⟩
    · cases r with
      | d x => exact rv
      | bor i a => exact hr.elim
      | own a x =>
        obtain ⟨e1, h1, h2, h3, h4⟩ := rv
        have hBa := newB a h2 h3
        refine ⟨e1, h1, hBa.1, h3, fun z => ?_⟩
        rcases fill_owned z with q | q
        · exact hBa.2 q
        · exact h4 q
      | deep a x gs =>
        obtain ⟨e1, h1, h2, h3, h4⟩ := rv
        refine ⟨e1, h1, h2, fun b hb => ?_, h4⟩
        obtain ⟨q1, q2, q3⟩ := h3 b hb
        have hBa := newB b q1 q2
        refine ⟨hBa.1, q2, fun z => ?_⟩
        rcases fill_owned z with q | q
        · exact hBa.2 q
        · exact q3 q
    · unfold backAs
      rw [fill_no hn, clr_no hn]
    · cases e : G b with
      | some u =>
        have h1 := F.exG b u e
        rw [h] at h1
        cases h1
        exact F'.exG b o (eG b o e)
      | none => exact (keep b o h e (by rw [hown, lent_no hn]; exact fun z => by cases z)).1
/-- THE CALL: from the arguments' words to the caller's slots behind it -/
theorem call_core {S : SpD} {Φ : R → List Sl → Prop} {rs : List R} {as : List Sl} {vs : List V} {Q : VK} {X : XK} (F : Frame K B G H σ δ) (hv : RVs K G rs vs) (hto : toAs δ rs = some as) (nd : (owned as).Nodup)
    (hS : ∀ Ψ : R → List Sl → Prop, (∀ r as', ownOut r → Φ r (backAs δ rs as') → Ψ r as') → S as Ψ)
    (k : ∀ r δ' v G' H', Φ r δ' → Ex G G' → Frame K B G' H' σ δ' → RV K B G' H' δ' r v → (noBor rs = true → δ' = δ ∧ Ex H H') → Q v H') : lift K S vs H Q X := by
  obtain ⟨Bc, F0, hb⟩ := call_in F hv hto nd
  refine ⟨Bc, G, as, F0, hS _ fun r as' hr hΦ v G' H' eG F' rv => ?_⟩
  obtain ⟨F2, hr2, hn⟩ := hb as' G' H' eG F'
  exact k r _ v G' H' hΦ eG F2 (hr2 r v hr rv) hn
end
theorem we_call {S : SpD} {tr : TA} {X : XK} {Φ : R → List Sl → Prop} (h : WA c p tr δ fun rs δ1 => ∃ as, toAs δ1 rs = some as ∧ (owned as).Nodup ∧ (p = true → noBor rs = true) ∧
    ∀ Ψ : R → List Sl → Prop, (∀ r as', ownOut r → Φ r (backAs δ1 rs as') → Ψ r as') → S as Ψ) : WE c p (tCall (lift c.K S) [] X tr) δ Φ := by
  intro B G H σ Q F x k
  refine h B G H σ _ F x fun rs δ1 vs G1 H1 w e1 F1 rv p1 => ?_
  obtain ⟨as, hto, nd, hp, hS⟩ := w
  show lift c.K S (vs ++ []) H1 Q X
  rw [List.append_nil]
  exact call_core F1 rv hto nd hS fun r δ' v G' H' q eG F' rv' n => k r δ' v G' H' q (e1.trans eG) F' rv' fun hp' => ⟨(n (hp hp')).1.trans (p1 hp').1, (p1 hp').2.trans (n (hp hp')).2⟩
/-- the parameters' words behind the body -/
def parOk : List Sl → List Sl → Prop
  | .own a _ :: as, .own b _ :: δ => b = a ∧ parOk as δ
  | .own a _ :: as, .deep b _ _ :: δ => b = a ∧ parOk as δ
  | .own _ _ :: _, _ => False
  | .deep a _ _ :: as, .deep b _ _ :: δ => b = a ∧ parOk as δ
  | .deep a _ _ :: as, .own b _ :: δ => b = a ∧ parOk as δ
  | .deep _ _ _ :: _, _ => False
  | _ :: as, _ :: δ => parOk as δ
  | _ :: _, [] => False
  | [], _ => True
def parBack : List Sl → List Sl → List Sl
  | .own _ _ :: as, s :: δ => s :: parBack as δ
  | .deep _ _ _ :: as, s :: δ => s :: parBack as δ
  | s :: as, _ :: δ => s :: parBack as δ
  | _, _ => []
/-- a slot's own, handed back -/
def outR (δ : List Sl) (i : Nat) : Option (Addr × R) := match δ[i]? with
  | some (.own a x) => some (a, .own a x)
  | some (.deep a x gs) => some (a, .deep a x gs)
  | _ => none
/-- what the body hands back -/
def RetD (as : List Sl) (Φ : R → List Sl → Prop) (r : R) (δ : List Sl) : Prop := parOk as δ ∧ match r with
  | .d x => Φ (.d x) (parBack as δ)
  | .own a x => Φ (.own a x) (parBack as δ)
  | .deep a x gs => Φ (.deep a x gs) (parBack as δ)
  | .bor i a => as.length ≤ i ∧ ∃ r', outR δ i = some (a, r') ∧ Φ r' (parBack as δ)
abbrev defEn (as : List Sl) (Φ : R → List Sl → Prop) : En := { nx := RetD as Φ (.d .non), rt := RetD as Φ }
section
variable {K : PySem.W.Frag} {B G G' H H' : Hp} {σ : St}
/-- parOk, slot by slot -/
def root : Sl → Option Addr
  | .own a _ => some a
  | .deep a _ _ => some a
  | _ => none
theorem parOk_cons {s t : Sl} {as δ : List Sl} (h : parOk (s :: as) (t :: δ)) : (root s = none ∨ root t = root s) ∧ parOk as δ := by
  cases s with
  | no => exact ⟨.inl rfl, h⟩
  | d x => exact ⟨.inl rfl, h⟩
  | own a x =>
    cases t with
    | no => exact h.elim
    | d x => exact h.elim
    | own b y => exact ⟨.inr (congrArg some h.1), h.2⟩
    | deep b y gs => exact ⟨.inr (congrArg some h.1), h.2⟩
  | deep a x gs =>
    cases t with
    | no => exact h.elim
    | d x => exact h.elim
    | own b y => exact ⟨.inr (congrArg some h.1), h.2⟩
    | deep b y gs => exact ⟨.inr (congrArg some h.1), h.2⟩
theorem parBack_cons (s t : Sl) (as δ : List Sl) : parBack (s :: as) (t :: δ) = (if (root s).isSome = true then t else s) :: parBack as δ := by cases s <;> rfl
theorem root_sl {s : Sl} {ov : Option V} {a : Addr} (h : SlR K G H s ov) (e : root s = some a) : ov = some (.ref a) := by
  cases s with
  | no => cases e
  | d x => cases e
  | own b x => cases e; exact h.1
  | deep b x gs => cases e; exact h.1
theorem ads_none {s : Sl} (h : root s = none) : ads s = [] := by cases s <;> first | rfl | cases h
theorem root_any {s : Sl} {ov ov' : Option V} (h : SlR K G H s ov) (e : ov' = ov) : SlR K G H s ov' := by subst e; exact h
theorem par_sl : ∀ {as δ : List Sl} {vs : List V} {σ : St}, SlsR K G H as (vs.map some) → parOk as δ → SlsR K G' H' δ σ → Ex G G' → SlsR K G' H' (parBack as δ) (vs.map some)
  | [], δ, vs, σ, h, ok, h', e => by
    cases vs with
    | nil => cases δ <;> exact (rfl : ([] : St) = [])
    | cons v vs => have z : some v :: vs.map some = [] := h; cases z
  | s :: as, [], vs, σ, h, ok, h', e => by cases s <;> exact ok.elim
  | s :: as, t :: δ, vs, σ, h, ok, h', e => by
    obtain ⟨ov, σr, e1, h1, h2⟩ := h
    obtain ⟨ov', σr', e1', h1', h2'⟩ := h'
    obtain ⟨hr, ok⟩ := parOk_cons ok
    cases vs with
    | nil => cases e1
    | cons v vs =>
      cases e1
      rw [parBack_cons]
      refine ⟨some v, vs.map some, rfl, ?_, par_sl h2 ok h2' e⟩
      cases q : root s with
      | none => exact SlR.ex e (fun a ha => by rw [show (if (none : Option Addr).isSome = true then t else s) = s from rfl, ads_none q] at ha; cases ha) h1
      | some a =>
        rcases hr with z | z
        · rw [q] at z; cases z
        · rw [q] at z
          exact root_any h1' ((root_sl h1 q).trans (root_sl h1' z).symm)
theorem parBack_sub' : ∀ {as δ : List Sl}, parOk as δ → (owned (parBack as δ)).Sublist (owned (δ.take as.length))
  | [], δ, _ => by cases δ <;> exact List.nil_sublist _
  | s :: as, [], ok => by cases s <;> exact ok.elim
  | s :: as, t :: δ, ok => by
    obtain ⟨hr, ok⟩ := parOk_cons ok
    rw [parBack_cons]
    show List.Sublist _ (owned (t :: δ.take as.length))
    rw [owned_cons, owned_cons]
    refine List.Sublist.append ?_ (parBack_sub' ok)
    cases q : root s with
    | none => show List.Sublist (ads s) _; rw [ads_none q]; exact List.nil_sublist _
    | some a => exact List.Sublist.refl _
theorem owned_take (δ : List Sl) (n : Nat) : (owned (δ.take n)).Sublist (owned δ) := by
  have e : owned δ = owned (δ.take n) ++ owned (δ.drop n) := by rw [← owned_append, List.take_append_drop]
  rw [e]
  exact List.sublist_append_left _ _
theorem parBack_sub {as δ : List Sl} (ok : parOk as δ) : (owned (parBack as δ)).Sublist (owned δ) := (parBack_sub' ok).trans (owned_take δ _)
/-- an owned place beyond the parameters is none of theirs -/
theorem parBack_not {as δ : List Sl} {i : Nat} {b : Addr} {s : Sl} (nd : (owned δ).Nodup) (ok : parOk as δ) (hi : as.length ≤ i) (e : δ[i]? = some s) (hb : b ∈ ads s) : b ∉ owned (parBack as δ) := by
  intro z
  have z1 := (parBack_sub' ok).subset z
  have z2 : b ∈ owned (δ.drop as.length) := owned_getA (i := i - as.length) (by rw [List.getElem?_drop, show as.length + (i - as.length) = i by omega]; exact e) hb
  have e2 : owned δ = owned (δ.take as.length) ++ owned (δ.drop as.length) := by rw [← owned_append, List.take_append_drop]
  rw [e2] at nd
  exact (List.nodup_append.mp nd).2.2 b z1 b z2 rfl
/-- a slot's own, handed back: as a new one -/
theorem outR_rv {as δ : List Sl} {i : Nat} {a : Addr} {r : R} {v : V} (F : Frame K B G H σ δ) (ok : parOk as δ) (hi : as.length ≤ i) (h : outR δ i = some (a, r)) (hv : v = .ref a) : RV K B G H (parBack as δ) r v ∧ ownOut r := by
  unfold outR at h
  split at h
  · rename_i b x ex
    cases h
    obtain ⟨ov, _, _, h3⟩ := F.get ex
    have hm : a ∈ ads (.own a x) := List.mem_singleton.mpr rfl
    exact ⟨⟨hv, h3, (F.own a (owned_get ex)).1, (F.own a (owned_get ex)).2, parBack_not F.nd ok hi ex hm⟩, trivial⟩
  · rename_i b x gs ex
    cases h
    obtain ⟨ov, _, _, h3, h4⟩ := F.get ex
    refine ⟨⟨hv, h3, h4, fun b hb => ⟨(F.own b (owned_getA ex hb)).1, (F.own b (owned_getA ex hb)).2, parBack_not F.nd ok hi ex hb⟩, ?_⟩, trivial⟩
    obtain ⟨l1, l2, e⟩ := List.append_of_mem (List.mem_of_getElem? ex)
    have nd := F.nd
    rw [e, owned_append, owned_cons] at nd
    exact (List.nodup_append.mp (List.nodup_append.mp nd).2.1).1
  · cases h
/-- A DEF: its body from its parameters' words -/
theorem lift_body {S : SpD} {t : TS} {N : List Str} {vs : List V} {H : Hp} {Q : VK} {X : XK} (h : lift K S vs H Q X)
    (hb : ∀ as Φ, as.length = vs.length → S as Φ → WS (c0 K) t (as ++ List.replicate (N.length - as.length) .no) (defEn as Φ)) : t { nx := fun _ H' => Q .non H', rt := Q } (start N vs) H := by
  obtain ⟨B, G, as, F, hS⟩ := h
  have hl : as.length = vs.length := by have e := F.sl.len; simpa using e.symm
  have F0 : Frame K B G H (L2.start N vs) (as ++ List.replicate (N.length - as.length) .no) := by
    have e0 : owned (as ++ List.replicate (N.length - as.length) .no) = owned as := by rw [owned_append, owned_no, List.append_nil]
    refine ⟨F.exB, F.exG, F.dis, ?_, by rw [e0]; exact F.own, by rw [e0]; exact F.nd⟩
    unfold L2.start
    rw [hl]
    refine F.sl.append ?_
    have z := SlsR.nos (K := K) (G := G) (H := H) (List.replicate (N.length - vs.length) none)
    rw [List.length_replicate] at z
    exact z
  have fin : ∀ (δ' : List Sl) (σ' : St) (G' H' : Hp), parOk as δ' → Ex G G' → Frame K B G' H' σ' δ' → Frame K B G' H' (vs.map some) (parBack as δ') := fun δ' σ' G' H' ok e F' =>
    ⟨F'.exB, F'.exG, F'.dis, par_sl F.sl ok F'.sl e, fun a ha => F'.own a ((parBack_sub ok).subset ha), F'.nd.sublist (parBack_sub ok)⟩
  refine hb as _ hl hS B G H (L2.start N vs) _ F0 trivial ⟨fun δ' σ' G' H' w eG F' => ?_, fun r δ' v σ' G' H' w eG F' rv => ?_, fun _ _ _ _ w => w.elim, fun _ _ _ _ w => w.elim⟩
  · exact w.2 .non G' H' eG (fin δ' σ' G' H' w.1 eG F') (rep_non (K := K) (G := G'))
  · obtain ⟨ok, w⟩ := w
    cases r with
    | d x => exact w v G' H' eG (fin δ' σ' G' H' ok eG F') rv
    | own a x =>
      obtain ⟨e1, h1, h2, h3, h4⟩ := rv
      exact w v G' H' eG (fin δ' σ' G' H' ok eG F') ⟨e1, h1, h2, h3, fun z => h4 ((parBack_sub ok).subset z)⟩
    | deep a x gs =>
      obtain ⟨e1, h1, h2, h3, h4⟩ := rv
      exact w v G' H' eG (fin δ' σ' G' H' ok eG F') ⟨e1, h1, h2, fun b hb => ⟨(h3 b hb).1, (h3 b hb).2.1, fun z => (h3 b hb).2.2 ((parBack_sub ok).subset z)⟩, h4⟩
    | bor i a =>
      obtain ⟨hi, r', ex, w⟩ := w
      obtain ⟨e1, _⟩ := rv
      exact w v G' H' eG (fin δ' σ' G' H' ok eG F') (outR_rv F' ok hi ex e1).1
end
end
end DL

/-! DL3: loops and comprehensions. -/
namespace DL
open PySem PySem.Spec PyProof.Rows L2
open Evl (Ex)
section
variable {c : Cd} {p : Bool} {δ : List Sl} {te ta tb : TE} {E : En} {t u : TS} {tt : TT} {g : TG}
/-! ### what is walked -/
def Yl (K : PySem.W.Frag) (G : Hp) (ds : List D) (Y : Nat → Hp → V → Hp → Prop) : Prop := ∀ i H2 x H3, i < ds.length → Y i H2 x H3 →
  (H3 = H2 ∧ ∃ d, ds[i]? = some d ∧ Rep K G d x) ∨ ∃ (T : Addr) (o : HO) (d : D), H2 T = none ∧ H3 = upd H2 T o ∧ ds[i]? = some d ∧ ∀ G2, Ex G G2 → G2 T = none → Rep K (upd G2 T o) d x
def WI (c : Cd) (p : Bool) (wi : TI) (δ : List Sl) (Φ : List D → List Sl → Prop) : Prop :=
  ∀ (B G H : Hp) (σ : St) (R : It → Hp → Prop), Frame c.K B G H σ δ → c.xr B G →
    (∀ ds δ' J G' H', Φ ds δ' → Ex G G' → Frame c.K B G' H' σ δ' → (p = true → δ' = δ ∧ Ex H H') →
      (∃ Gd Y, Walk J ds.length Gd Y ∧ (∀ H2, Ex G' H2 → Gd H2) ∧ Yl c.K G' ds Y) → R J H') → wi σ H R
theorem sql {K : PySem.W.Frag} {H : Hp} {a : Addr} {xs : List V} (h : Rd H a (.lst xs)) : SqL K H a xs := Or.inl h
theorem wi_list {Φ : List D → List Sl → Prop} (h : WE c p te δ fun r δ1 => ∃ ds, frz r = .d (.lst ds) ∧ Φ ds δ1) : WI c p (iList c.K te) δ Φ := by
  intro B G H σ R F x k
  refine h B G H σ _ F x fun r δ1 v G1 H1 w e1 F1 rv p1 => ?_
  obtain ⟨ds, e, w⟩ := w
  obtain ⟨G1', e1', F1', rw1⟩ := rv.weak F1
  rw [e] at rw1
  have rw2 : Rep c.K G1' (.lst ds) v := rw1
  unfold Rep at rw2
  obtain ⟨a, xs, e2, h1, h2⟩ := rw2
  refine ⟨a, e2, ⟨xs, .inl (Rd.of (F1'.exG _ _ h1))⟩, k ds δ1 _ G1' H1 w (e1.trans e1') F1' p1 ⟨_, YAt xs, by rw [← reps_length h2]; exact walk_list, fun H2 e3 => sql (Rd.of (e3 _ _ h1)), fun i H2 x H3 hi (y : YAt xs i H2 x H3) => .inl ⟨y.1, ?_⟩⟩⟩
  obtain ⟨d, hd, hr⟩ := reps_getV h2 y.2
  exact ⟨d, hd, hr⟩
theorem wi_tup {Φ : List D → List Sl → Prop} (h : WE c p te δ fun r δ1 => ∃ ds, frz r = .d (.tup ds) ∧ Φ ds δ1) : WI c p (iTup c.K te) δ Φ := by
  intro B G H σ R F x k
  refine h B G H σ _ F x fun r δ1 v G1 H1 w e1 F1 rv p1 => ?_
  obtain ⟨ds, e, w⟩ := w
  obtain ⟨G1', e1', F1', rw1⟩ := rv.weak F1
  rw [e] at rw1
  have rw2 : Rep c.K G1' (.tup ds) v := rw1
  unfold Rep at rw2
  obtain ⟨a, xs, e2, h1, h2⟩ := rw2
  refine ⟨a, e2, ⟨xs, SqT.of (F1'.exG _ _ h1)⟩, k ds δ1 _ G1' H1 w (e1.trans e1') F1' p1 ⟨_, YAt xs, by rw [← reps_length h2]; exact walk_tup, fun H2 e3 => SqT.of (e3 _ _ h1), fun i H2 x H3 hi (y : YAt xs i H2 x H3) => .inl ⟨y.1, ?_⟩⟩⟩
  obtain ⟨d, hd, hr⟩ := reps_getV h2 y.2
  exact ⟨d, hd, hr⟩
def rangeD (lo : Int) (n : Nat) : List D := (List.range n).map fun (i : Nat) => D.int (lo + (i : Int))
theorem rangeD_len (lo : Int) (n : Nat) : (rangeD lo n).length = n := by unfold rangeD; simp
theorem rangeD_get {lo : Int} {n i : Nat} {d : D} (h : (rangeD lo n)[i]? = some d) : i < n ∧ d = .int (lo + i) := by
  unfold rangeD at h
  rw [List.getElem?_map] at h
  by_cases hi : i < n
  · rw [List.getElem?_range hi] at h
    cases h
    exact ⟨hi, rfl⟩
  · rw [List.getElem?_eq_none (by simpa using hi)] at h
    cases h
theorem rangeD_at {lo : Int} {n i : Nat} (h : i < n) : (rangeD lo n)[i]? = some (.int (lo + i)) := by
  unfold rangeD
  rw [List.getElem?_map, List.getElem?_range h]
  rfl
theorem wi_range1 {tr : TA} {Φ : List D → List Sl → Prop} (h : WA c p tr δ fun rs δ1 => ∃ j : Int, rs = [.d (.int j)] ∧ -(2 ^ 62) ≤ j ∧ j < 2 ^ 62 ∧ Φ (rangeD 0 j.toNat) δ1) : WI c p (iRng1 tr) δ Φ := by
  intro B G H σ R F x k
  refine h B G H σ _ F x fun rs δ1 vs G1 H1 w e1 F1 rv p1 => ?_
  obtain ⟨j, e, h1, h2, w⟩ := w
  subst e
  obtain ⟨v, vr, e2, h3, h4⟩ := rv
  have e3 : vr = [] := h4
  have e4 : v = .int j := by have h3' : Rep c.K G1 (.int j) v := h3; unfold Rep at h3'; exact h3'
  subst e4
  subst e3
  subst e2
  refine ⟨j, rfl, h1, h2, k _ δ1 _ G1 H1 w e1 F1 p1 ⟨_, YFn fun q => .int (0 + (q : Int)), by rw [rangeD_len]; exact walk_range, fun _ _ => trivial, fun i2 H2 y H3 hi (yy : YFn (fun q => .int (0 + (q : Int))) i2 H2 y H3) => .inl ⟨yy.1, _, rangeD_at (by rw [rangeD_len] at hi; exact hi), ?_⟩⟩⟩
  rw [yy.2]
  exact rep_int
theorem wi_range2 {tr : TA} {Φ : List D → List Sl → Prop} (h : WA c p tr δ fun rs δ1 => ∃ i j : Int, rs = [.d (.int i), .d (.int j)] ∧ (-(2 ^ 62) ≤ i ∧ i < 2 ^ 62 ∧ -(2 ^ 62) ≤ j ∧ j < 2 ^ 62) ∧ Φ (rangeD i (j - i).toNat) δ1) : WI c p (iRng2 tr) δ Φ := by
  intro B G H σ R F x k
  refine h B G H σ _ F x fun rs δ1 vs G1 H1 w e1 F1 rv p1 => ?_
  obtain ⟨i, j, e, h1, w⟩ := w
  subst e
  obtain ⟨v, vr, e2, h3, v2, vr2, e22, h32, h4⟩ := rv
  have e3 : vr2 = [] := h4
  have e4 : v = .int i := by have h3' : Rep c.K G1 (.int i) v := h3; unfold Rep at h3'; exact h3'
  have e5 : v2 = .int j := by have h3' : Rep c.K G1 (.int j) v2 := h32; unfold Rep at h3'; exact h3'
  subst e4 e5 e3 e22 e2
  refine ⟨i, j, rfl, h1, k _ δ1 _ G1 H1 w e1 F1 p1 ⟨_, YFn fun q => .int (i + (q : Int)), by rw [rangeD_len]; exact walk_range, fun _ _ => trivial, fun i2 H2 y H3 hi (yy : YFn (fun q => .int (i + (q : Int))) i2 H2 y H3) => .inl ⟨yy.1, _, rangeD_at (by rw [rangeD_len] at hi; exact hi), ?_⟩⟩⟩
  rw [yy.2]
  exact rep_int
def signsD (z : Str) : List D := z.cps.toList.map fun ch => D.str ⟨#[ch]⟩
theorem wi_str {Φ : List D → List Sl → Prop} (h : WE c p te δ fun r δ1 => ∃ z, r = .d (.str z) ∧ Φ (signsD z) δ1) : WI c p (iStr te) δ Φ := by
  intro B G H σ R F x k
  refine h B G H σ _ F x fun r δ1 v G1 H1 w e1 F1 rv p1 => ?_
  obtain ⟨z, e, w⟩ := w
  subst e
  have e2 : v = .str z := by have h : Rep c.K G1 (.str z) v := rv; unfold Rep at h; exact h
  have el : (signsD z).length = z.cps.size := by unfold signsD; simp
  refine ⟨z, e2, k _ δ1 _ G1 H1 w e1 F1 p1 ⟨_, fun i H2 y H3 => H3 = H2 ∧ ∃ c, z.cps[i]? = some c ∧ y = .str ⟨#[c]⟩, by rw [el]; exact walk_str, fun _ _ => trivial, fun i H2 y H3 hi (yy : H3 = H2 ∧ ∃ c, z.cps[i]? = some c ∧ y = .str ⟨#[c]⟩) => .inl ⟨yy.1, ?_⟩⟩⟩
  obtain ⟨_, ch, hc, ey⟩ := yy
  refine ⟨.str ⟨#[ch]⟩, ?_, ?_⟩
  · unfold signsD
    rw [List.getElem?_map, Array.getElem?_toList, hc]
    rfl
  · rw [ey]; exact rep_str
theorem yl_pair {K : PySem.W.Frag} {G : Hp} {f g : Nat → Option V} {ds : List D} (h : ∀ i x y, i < ds.length → f i = some x → g i = some y → ∃ d e, ds[i]? = some (.tup [d, e]) ∧ Rep K G d x ∧ Rep K G e y) : Yl K G ds (YPair f g) := by
  intro i H2 v H3 hi y
  obtain ⟨T, x, z, e1, h1, e2, e3, e4⟩ := y
  obtain ⟨d, e, h2, h3, h4⟩ := h i x z hi e3 e4
  refine .inr ⟨T, _, .tup [d, e], h1, e2, h2, fun G2 eG hT => ?_⟩
  rw [e1]
  exact rep_newT hT (reps_cons (h3.mono eG) (reps_one (h4.mono eG)))
def enumD (ds : List D) : List D := (List.range ds.length).map fun (i : Nat) => D.tup [.int (i : Int), ds.getD i .non]
theorem wi_enum {tr : TA} {Φ : List D → List Sl → Prop} (h : WA c p tr δ fun rs δ1 => ∃ ds, rs = [.d (.lst ds)] ∧ Φ (enumD ds) δ1) : WI c p (iEnum c.K tr) δ Φ := by
  intro B G H σ R F x k
  refine h B G H σ _ F x fun rs δ1 vs G1 H1 w e1 F1 rv p1 => ?_
  obtain ⟨ds, e, w⟩ := w
  subst e
  obtain ⟨v, vr, e2, h3, h4⟩ := rv
  have e3 : vr = [] := h4
  have h3' : Rep c.K G1 (.lst ds) v := h3
  unfold Rep at h3'
  obtain ⟨a, xs, e4, h5, h6⟩ := h3'
  subst e4 e3 e2
  have el : (enumD ds).length = xs.length := by unfold enumD; simp [reps_length h6]
  refine ⟨a, xs, rfl, .inl (Rd.of (F1.exG _ _ h5)), k _ δ1 _ G1 H1 w e1 F1 p1 ⟨_, _, by rw [el]; exact walk_enum, fun H2 e => sql (Rd.of (e _ _ h5)), yl_pair fun i x y hi hx hy => ?_⟩⟩
  cases hx
  obtain ⟨d, hd, hr⟩ := reps_getV h6 hy
  have hi2 : i < ds.length := (List.getElem?_eq_some_iff.mp hd).1
  refine ⟨.int i, d, ?_, rep_int, hr⟩
  unfold enumD
  rw [List.getElem?_map, List.getElem?_range hi2]
  show some (D.tup [.int (i : Int), ds.getD i .non]) = _
  rw [List.getD_eq_getElem?_getD, hd]
  rfl
def zipD (ds es : List D) : List D := (ds.zip es).map fun q => D.tup [q.1, q.2]
theorem wi_zip {tr : TA} {Φ : List D → List Sl → Prop} (h : WA c p tr δ fun rs δ1 => ∃ ds es, rs = [.d (.lst ds), .d (.lst es)] ∧ Φ (zipD ds es) δ1) : WI c p (iZip c.K tr) δ Φ := by
  intro B G H σ R F x k
  refine h B G H σ _ F x fun rs δ1 vs G1 H1 w e1 F1 rv p1 => ?_
  obtain ⟨ds, es, e, w⟩ := w
  subst e
  obtain ⟨v, vr, e2, h3, v2, vr2, e22, h32, h4⟩ := rv
  have e3 : vr2 = [] := h4
  have h3' : Rep c.K G1 (.lst ds) v := h3
  unfold Rep at h3'
  obtain ⟨a, xs, e4, h5, h6⟩ := h3'
  have h32' : Rep c.K G1 (.lst es) v2 := h32
  unfold Rep at h32'
  obtain ⟨b, ys, e5, h7, h8⟩ := h32'
  subst e4 e5 e3 e22 e2
  have el : (zipD ds es).length = min xs.length ys.length := by unfold zipD; simp [reps_length h6, reps_length h8]
  refine ⟨a, b, xs, ys, rfl, .inl (Rd.of (F1.exG _ _ h5)), .inl (Rd.of (F1.exG _ _ h7)), k _ δ1 _ G1 H1 w e1 F1 p1 ⟨_, _, walk_zip el, fun H2 e => ⟨sql (Rd.of (e _ _ h5)), sql (Rd.of (e _ _ h7))⟩, yl_pair fun i x y hi hx hy => ?_⟩⟩
  obtain ⟨d, hd, hr⟩ := reps_getV h6 hx
  obtain ⟨d2, hd2, hr2⟩ := reps_getV h8 hy
  refine ⟨d, d2, ?_, hr, hr2⟩
  unfold zipD
  rw [List.getElem?_map, (List.getElem?_zip_eq_some (z := (d, d2))).mpr ⟨hd, hd2⟩]
  rfl
/-! ### loops -/
theorem ws_for {wi : TI} (h : WI c p wi δ fun ds δ1 => ∃ I : Nat → List Sl → Prop, I 0 δ1 ∧
    (∀ i d δ2, ds[i]? = some d → I i δ2 → WG c g (.d d) δ2 fun δ3 => WS c t δ3 { E with nx := I (i + 1), ct := I (i + 1), bk := E.nx }) ∧ ∀ δ2, I ds.length δ2 → E.nx δ2) : WS c (tFor wi g t) δ E := by
  intro B G H σ Dd F x e
  refine h B G H σ _ F x fun ds δ1 J G1 H1 w e1 F1 p1 ww => ?_
  obtain ⟨I, i0, it, iend⟩ := w
  obtain ⟨Gd, Y, W, hG, hY⟩ := ww
  refine for_it W (fun i σ' H' => ∃ δ' G', I i δ' ∧ Ex G1 G' ∧ Frame c.K B G' H' σ' δ') ⟨δ1, G1, i0, Ex.refl G1, F1⟩ (fun i σ' H' _ ⟨δ', G', _, e2, F2⟩ => hG H' (e2.trans F2.exG)) (fun i y σ' H2 H3 hi pv yy => ?_) fun σ' H' ⟨δ', G', hI, e2, F2⟩ => e.nx δ' σ' G' H' (iend δ' hI) (e1.trans e2) F2
  obtain ⟨δ', G', hI, e2, F2⟩ := pv
  have go : ∀ (d : D) (G2 H2 : Hp), ds[i]? = some d → Ex G1 G2 → Frame c.K B G2 H2 σ' δ' → Rep c.K G2 d y → g y σ' H2 fun σ2 H2 => t { Dd with nx := fun σ' H' => ∃ δ' G', I (i + 1) δ' ∧ Ex G1 G' ∧ Frame c.K B G' H' σ' δ', ct := fun σ' H' => ∃ δ' G', I (i + 1) δ' ∧ Ex G1 G' ∧ Frame c.K B G' H' σ' δ', bk := Dd.nx } σ2 H2 := by
    intro d G2 H2 hd e3 F3 hr
    refine it i d δ' hd hI B G2 H2 σ' y _ F3 (c.mono _ _ _ (e1.trans e3) x) hr fun δ3 σ3 G3 H3 hws e4 F4 => ?_
    have e5 := e3.trans e4
    refine hws B G3 H3 σ3 _ F4 (c.mono _ _ _ (e1.trans e5) x) ⟨fun δ4 σ4 G4 H4 w e6 F5 => ⟨δ4, G4, w, e5.trans e6, F5⟩, fun r δ4 v σ4 G4 H4 w e6 F5 => e.rt r δ4 v σ4 G4 H4 w (e1.trans (e5.trans e6)) F5, fun δ4 σ4 G4 H4 w e6 F5 => e.nx δ4 σ4 G4 H4 w (e1.trans (e5.trans e6)) F5, fun δ4 σ4 G4 H4 w e6 F5 => ⟨δ4, G4, w, e5.trans e6, F5⟩⟩
  rcases hY i H2 y H3 hi yy with ⟨q1, d, hd, hr⟩ | ⟨T, o, d, hT, q1, hd, hr⟩
  · subst q1
    exact go d G' H3 hd e2 F2 (hr.mono e2)
  · subst q1
    have hT' := (F2.fresh hT).2.1
    exact go d (upd G' T o) _ hd (e2.trans (Ex.new hT')) (F2.laid hT) (hr G' e2 hT')
theorem ws_while {I : Nat → List Sl → Prop} (n : Nat) (h0 : I n δ) (hs : ∀ m δ', I m δ' → WT c p tt δ' fun b δ2 => (b = true → WS c t δ2 { E with nx := fun δ3 => ∃ m', m' < m ∧ I m' δ3, ct := fun δ3 => ∃ m', m' < m ∧ I m' δ3, bk := E.nx }) ∧ (b = false → E.nx δ2)) : WS c (tWhile tt t) δ E := by
  intro B G H σ Dd F x e
  refine ⟨fun m σ' H' => ∃ δ' G', I m δ' ∧ Ex G G' ∧ Frame c.K B G' H' σ' δ', ⟨n, δ, G, h0, Ex.refl G, F⟩, fun m σ1 H1 w => ?_⟩
  obtain ⟨δ1, G1, hI, e1, F1⟩ := w
  refine hs m δ1 hI B G1 H1 σ1 _ F1 (c.mono _ _ _ e1 x) fun b δ2 G2 H2 w e2 F2 p2 => ?_
  have e3 := e1.trans e2
  cases b with
  | true =>
    rw [if_pos rfl]
    refine ⟨fun σ' H' => ∃ m', m' < m ∧ ∃ δ' G', I m' δ' ∧ Ex G G' ∧ Frame c.K B G' H' σ' δ', fun σ' H' z => z, ?_⟩
    exact w.1 rfl B G2 H2 σ1 _ F2 (c.mono _ _ _ e3 x) ⟨fun δ4 σ4 G4 H4 ⟨m', hm, w⟩ e6 F5 => ⟨m', hm, δ4, G4, w, e3.trans e6, F5⟩, fun r δ4 v σ4 G4 H4 w e6 F5 => e.rt r δ4 v σ4 G4 H4 w (e3.trans e6) F5, fun δ4 σ4 G4 H4 w e6 F5 => e.nx δ4 σ4 G4 H4 w (e3.trans e6) F5, fun δ4 σ4 G4 H4 ⟨m', hm, w⟩ e6 F5 => ⟨m', hm, δ4, G4, w, e3.trans e6, F5⟩⟩
  | false =>
    rw [if_neg Bool.false_ne_true]
    exact e.nx δ2 σ1 G2 H2 (w.2 rfl) e3 F2
/-! ### comprehensions -/
theorem wipe_get {σ : St} {j : Nat} : ∀ {vs : List Nat}, (wipe σ vs)[j]? = if j ∈ vs ∧ j < σ.length then some none else σ[j]?
  | [] => by simp [wipe]
  | v :: vs => by
    have ih := wipe_get (σ := σ) (j := j) (vs := vs)
    show ((wipe σ vs).set v none)[j]? = _
    rw [List.getElem?_set]
    by_cases e : v = j
    · subst e
      rw [if_pos rfl, wipe_length]
      by_cases hl : v < σ.length
      · rw [if_pos hl, if_pos ⟨List.mem_cons_self, hl⟩]
      · rw [if_neg hl, if_neg (fun z => hl z.2), List.getElem?_eq_none (by omega)]
    · rw [if_neg e, ih]
      have hne : (j ∈ v :: vs) ↔ j ∈ vs := by simp [Ne.symm e]
      simp only [hne]
theorem wipe_wipe (σ : St) (vs : List Nat) : wipe (wipe σ vs) vs = wipe σ vs := by
  apply List.ext_getElem?
  intro j
  rw [wipe_get, wipe_get, wipe_length]
  by_cases h : j ∈ vs ∧ j < σ.length
  · rw [if_pos h, if_pos h]
  · rw [if_neg h]
theorem wipe_set {σ : St} {vs : List Nat} {j : Nat} {x : Option V} (h : j ∈ vs) : wipe (σ.set j x) vs = wipe σ vs := by
  apply List.ext_getElem?
  intro i
  rw [wipe_get, wipe_get, List.length_set]
  by_cases q : i ∈ vs ∧ i < σ.length
  · rw [if_pos q, if_pos q]
  · rw [if_neg q, if_neg q, List.getElem?_set]
    by_cases e : j = i
    · subst e
      have hl : ¬ j < σ.length := fun z => q ⟨h, z⟩
      rw [if_pos rfl, if_neg hl, List.getElem?_eq_none (by omega)]
    · rw [if_neg e]
def wipeS (δ : List Sl) : List Nat → List Sl
  | [] => δ
  | v :: vs => (wipeS δ vs).set v .no
def restS (δ ε : List Sl) : List Nat → List Sl
  | [] => ε
  | v :: vs => match δ[v]? with
    | some s => (restS δ (ε.set v .no) vs).set v s
    | none => restS δ (ε.set v .no) vs
def nonOwn (δ : List Sl) : List Nat → Prop
  | [] => True
  | v :: vs => (match δ[v]? with
    | some (.own _ _) => False
    | some (.deep _ _ _) => False
    | _ => True) ∧ nonOwn δ vs
theorem nonOwn_ads {δ : List Sl} {v : Nat} {vs : List Nat} {s : Sl} (n : nonOwn δ (v :: vs)) (e : δ[v]? = some s) : ads s = [] := by
  have n1 := n.1
  rw [e] at n1
  cases s <;> first | rfl | exact n1.elim
section
variable {K : PySem.W.Frag} {B G G' H H' : Hp} {σ : St}
theorem wipeS_sub : ∀ vs : List Nat, (owned (wipeS δ vs)).Sublist (owned δ)
  | [] => List.Sublist.refl _
  | v :: vs => (owned_set_no rfl).trans (wipeS_sub vs)
theorem wipeS_sl (h : SlsR K G H δ σ) : ∀ vs : List Nat, SlsR K G H (wipeS δ vs) (wipe σ vs)
  | [] => h
  | v :: vs => (wipeS_sl h vs).set v trivial
theorem frame_wipe (F : Frame K B G H σ δ) (vs : List Nat) : Frame K B G H (wipe σ vs) (wipeS δ vs) :=
  ⟨F.exB, F.exG, F.dis, wipeS_sl F.sl vs, fun a ha => F.own a ((wipeS_sub vs).subset ha), F.nd.sublist (wipeS_sub vs)⟩
theorem sl_any : ∀ {ε : List Sl} {σ : St} {v : Nat} {ov : Option V}, SlsR K G H ε (σ.set v ov) → SlsR K G H (ε.set v .no) σ
  | ε, [], v, ov, h => by
    have h' : SlsR K G H ε [] := h
    cases ε with
    | nil => exact h'
    | cons s ε => obtain ⟨_, _, e, _⟩ := h'; cases e
  | [], w :: σ, v, ov, h => by
    have e : (w :: σ).set v ov = [] := h
    cases v <;> cases e
  | s :: ε, w :: σ, 0, ov, h => by
    obtain ⟨ow, σr, e, h1, h2⟩ := h
    cases e
    exact ⟨w, σ, rfl, trivial, h2⟩
  | s :: ε, w :: σ, v + 1, ov, h => by
    obtain ⟨ow, σr, e, h1, h2⟩ := h
    cases e
    exact ⟨w, σ, rfl, h1, sl_any h2⟩
theorem restS_sl (h : SlsR K G H δ σ) (eG : Ex G G') : ∀ {vs : List Nat} {ε : List Sl}, nonOwn δ vs → SlsR K G' H' ε (wipe σ vs) → SlsR K G' H' (restS δ ε vs) σ
  | [], ε, _, h' => h'
  | v :: vs, ε, n, h' => by
    have h1 : SlsR K G' H' (ε.set v .no) (wipe σ vs) := sl_any (ov := none) h'
    have ih := restS_sl h eG n.2 h1
    unfold restS
    cases e : δ[v]? with
    | none => exact ih
    | some s =>
      refine ih.setS (ov := none) v fun ov eo => ?_
      obtain ⟨ov', e1, h2⟩ := h.get e
      rw [eo] at e1
      cases e1
      have n1 := nonOwn_ads n e
      exact h2.ex eG (fun a z => by rw [n1] at z; cases z)
theorem restS_sub : ∀ {vs : List Nat} {ε : List Sl}, nonOwn δ vs → (owned (restS δ ε vs)).Sublist (owned ε)
  | [], ε, _ => List.Sublist.refl _
  | v :: vs, ε, n => by
    have ih := (restS_sub (vs := vs) (ε := ε.set v .no) n.2).trans (owned_set_no rfl)
    unfold restS
    cases e : δ[v]? with
    | none => exact ih
    | some s =>
      exact (owned_set_no (nonOwn_ads n e)).trans ih
end
theorem owned_set_non : ∀ {δ : List Sl} {v : Nat}, (∀ s, δ[v]? = some s → ads s = []) → owned (δ.set v .no) = owned δ
  | [], v, _ => rfl
  | s :: δ, 0, h => by
    show owned (.no :: δ) = _
    rw [owned_cons, owned_cons, h s rfl]
    rfl
  | s :: δ, v + 1, h => by
    show owned (s :: δ.set v .no) = _
    rw [owned_cons, owned_cons, owned_set_non (δ := δ) (v := v) (fun t e => h t (by simpa using e))]
theorem wipeS_get {δ : List Sl} {j : Nat} : ∀ {vs : List Nat}, (wipeS δ vs)[j]? = some .no ∨ (wipeS δ vs)[j]? = δ[j]?
  | [] => .inr rfl
  | v :: vs => by
    show ((wipeS δ vs).set v .no)[j]? = some .no ∨ ((wipeS δ vs).set v .no)[j]? = δ[j]?
    have ih := wipeS_get (δ := δ) (j := j) (vs := vs)
    by_cases e : v = j
    · subst e
      by_cases hl : v < (wipeS δ vs).length
      · exact .inl (List.getElem?_set_self hl)
      · rw [List.set_eq_of_length_le (by omega)]
        exact ih
    · rw [List.getElem?_set_ne e]
      exact ih
theorem wipeS_own {δ : List Sl} : ∀ {vs : List Nat}, nonOwn δ vs → owned (wipeS δ vs) = owned δ
  | [], _ => rfl
  | v :: vs, n => by
    have ih := wipeS_own (vs := vs) n.2
    show owned ((wipeS δ vs).set v .no) = owned δ
    rw [owned_set_non, ih]
    intro s e
    rcases wipeS_get (δ := δ) (j := v) (vs := vs) with q | q
    · rw [q] at e; cases e; rfl
    · rw [q] at e
      exact nonOwn_ads n e
/-- a comprehension's target -/
def WGc (g : TG) (K : PySem.W.Frag) (d : D) (ε : List Sl) (vs : List Nat) (Φ : List Sl → Prop) : Prop :=
  ∀ (B G H : Hp) (σ : St) (v : V) (Q : St → Hp → Prop), Frame K B G H σ ε → Rep K G d v → (∀ ε' σ', Φ ε' → owned ε' = owned ε → Frame K B G H σ' ε' → wipe σ' vs = wipe σ vs → Q σ' H) → g v σ H Q
theorem owned_set_d {ε : List Sl} {j : Nat} {d : D} (h : ε[j]? = some .no) : owned (ε.set j (.d d)) = owned ε := owned_set_sameA h rfl
theorem wgc_name {K : PySem.W.Frag} {d : D} {ε : List Sl} {vs : List Nat} {j : Nat} {Φ : List Sl → Prop} (hj : j ∈ vs) (hε : ε[j]? = some .no) (h : Φ (ε.set j (.d d))) : WGc (gName j) K d ε vs Φ := fun B G H σ v Q F r k =>
  k _ _ h (owned_set_d hε) (frame_set (r := .d d) F r rfl) (wipe_set hj)
def WGcs (g : TGs) (K : PySem.W.Frag) (ds : List D) (ε : List Sl) (vs : List Nat) (Φ : List Sl → Prop) : Prop :=
  ∀ (B G H : Hp) (σ : St) (v : List V) (Q : St → Hp → Prop), Frame K B G H σ ε → Reps K G ds v → (∀ ε' σ', Φ ε' → owned ε' = owned ε → Frame K B G H σ' ε' → wipe σ' vs = wipe σ vs → Q σ' H) → g v σ H Q
theorem wgcs_nil {K : PySem.W.Frag} {ε : List Sl} {vs : List Nat} {Φ : List Sl → Prop} (h : Φ ε) : WGcs gNil K [] ε vs Φ := fun B G H σ v Q F r k => by
  unfold Reps at r
  exact ⟨r, k ε σ h rfl F rfl⟩
theorem wgcs_cons {gs : TGs} {K : PySem.W.Frag} {d : D} {ds : List D} {ε : List Sl} {vs : List Nat} {Φ : List Sl → Prop} (h : WGc g K d ε vs fun ε1 => WGcs gs K ds ε1 vs Φ) : WGcs (gCons g gs) K (d :: ds) ε vs Φ := fun B G H σ v Q F r k => by
  unfold Reps at r
  obtain ⟨v1, vr, e, h1, h2⟩ := r
  refine ⟨v1, vr, e, h B G H σ v1 _ F h1 fun ε1 σ1 w o1 F1 e1 => ?_⟩
  exact w B G H σ1 vr Q F1 h2 fun ε2 σ2 w2 o2 F2 e2 => k ε2 σ2 w2 (o2.trans o1) F2 (e2.trans e1)
theorem wgc_tup {gs : TGs} {K : PySem.W.Frag} {n : Nat} {ds : List D} {ε : List Sl} {vs : List Nat} {Φ : List Sl → Prop} (hn : ds.length = n) (h : WGcs gs K ds ε vs Φ) : WGc (gTup K n gs) K (.tup ds) ε vs Φ := fun B G H σ v Q F r k => by
  have r' : Rep K G (.tup ds) v := r
  unfold Rep at r'
  obtain ⟨a, ys, e, h1, h2⟩ := r'
  exact ⟨a, ys, e, SqT.of (F.exG _ _ h1), (reps_length h2).trans hn, h B G H σ ys Q F h2 k⟩
theorem take_get {α : Type} {ds : List α} {i : Nat} {d : α} (h : ds[i]? = some d) : ds.take (i + 1) = ds.take i ++ [d] := by
  rw [List.take_add_one, h]
  rfl
/-- a pure comprehension -/
theorem we_lcP {wi : TI} {vs : List Nat} {Φ : R → List Sl → Prop} (h : WI c p wi δ fun ds δ1 => nonOwn δ1 vs ∧ ds.length ≤ 100000 ∧ ∃ kf : DL.D → Option DL.D,
    (∀ (i : Nat) (d : DL.D), ds[i]? = some d → WGc g c.K d (wipeS δ1 vs) vs fun ε1 => WT (c0 c.K) true tt ε1 fun b ε2 => (b = true → WE (c0 c.K) true te ε2 fun r _ => ∃ x, frz r = .d x ∧ kf d = some x) ∧ (b = false → kf d = none)) ∧
    ∀ a, Φ (.own a (.lst (ds.filterMap kf))) δ1) : WE c p (tLc wi g tt te vs) δ Φ := by
  intro B G H σ Q F x k
  refine h B G H σ _ F x fun ds δ1 J G1 H1 w e1 F1 p1 ww => ?_
  obtain ⟨hno, hlen, kf, step, w⟩ := w
  obtain ⟨Gd, Y, W, hG, hY⟩ := ww
  intro D hD
  obtain ⟨hB, hG1, hO⟩ := F1.fresh hD
  refine lc_it W (fun i H' => ∃ G' xs, Ex G1 G' ∧ Ex H1 H' ∧ Frame c.K B G' H' σ δ1 ∧ H' D = some (.lst xs) ∧ Reps c.K G' ((ds.take i).filterMap kf) xs ∧ G' D = none) ⟨G1, [], Ex.refl G1, Ex.new hD, F1.ex (Ex.new hD), upd_same, by simpa using reps_nil, hG1⟩
    (fun i H' _ ⟨G', xs, e2, _, F2, _⟩ => hG H' (e2.trans F2.exG)) (fun i y H2 H3 hi pv yy => ?_) fun H' pv => ?_
  · obtain ⟨G', xs, e2, eH, F2, hx, hr, hGD⟩ := pv
    have hOD : ∀ a ∈ owned δ1, a ≠ D := fun a ha z => hO (by rw [← z]; exact ha)
    have go : ∀ (d : DL.D) (G2 H2 : Hp), ds[i]? = some d → Ex G1 G2 → Ex H1 H2 → Frame c.K B G2 H2 σ δ1 → H2 D = some (.lst xs) → Reps c.K G2 ((ds.take i).filterMap kf) xs → G2 D = none → Rep c.K G2 d y → g y (wipe σ vs) H2 fun σ2 H2 => wipe σ2 vs = wipe σ vs ∧ tt σ2 H2 fun b H3 =>
        if b = true then te σ2 H3 fun y H4 => ∃ acc, H4 D = some (.lst acc) ∧ acc.length < sizeLine ∧ ∃ G' xs, Ex G1 G' ∧ Ex H1 (upd H4 D (.lst (acc ++ [y]))) ∧ Frame c.K B G' (upd H4 D (.lst (acc ++ [y]))) σ δ1 ∧ (upd H4 D (.lst (acc ++ [y]))) D = some (.lst xs) ∧ Reps c.K G' ((ds.take (i + 1)).filterMap kf) xs ∧ G' D = none
        else ∃ G' xs, Ex G1 G' ∧ Ex H1 H3 ∧ Frame c.K B G' H3 σ δ1 ∧ H3 D = some (.lst xs) ∧ Reps c.K G' ((ds.take (i + 1)).filterMap kf) xs ∧ G' D = none := by
      intro d G2 H2 hd e3 eH3 F3 hx3 hr3 hGD3 hrep
      have Fb : Frame c.K (upd B D (.lst xs)) G2 H2 (wipe σ vs) (wipeS δ1 vs) := by
        have Fw := frame_wipe F3 vs
        refine ⟨fun b o e => ?_, Fw.exG, fun b => ?_, Fw.sl, fun a ha => ⟨?_, (Fw.own a ha).2⟩, Fw.nd⟩
        · by_cases q : b = D
          · subst q; rw [upd_same] at e; rw [hx3]; exact e
          · rw [upd_ne q] at e; exact Fw.exB b o e
        · by_cases q : b = D
          · subst q; exact .inr (.inl hGD3)
          · rw [upd_ne q]; exact Fw.dis b
        · rw [upd_ne (hOD a ((wipeS_sub vs).subset ha))]
          exact (Fw.own a ha).1
      refine step i d hd _ G2 H2 (wipe σ vs) y _ Fb hrep fun ε1 σ1 hw og Fg ew => ⟨ew.trans (wipe_wipe σ vs), ?_⟩
      refine hw _ G2 H2 σ1 _ Fg trivial fun b ε2 G4 H4 w4 e4 F4 p4 => ?_
      obtain ⟨_, eH4⟩ := p4 rfl
      have hx4 := eH4 D _ hx3
      have dis4 : G4 D = none := F4.disN upd_same (fun _ z => nomatch z)
      have F4' : Frame c.K B G4 H4 σ δ1 := by
        refine (F3.ex eH4).more e4 F4.exG (fun b => ?_) fun a ha => ?_
        · by_cases q : b = D
          · subst q; exact .inr (.inl dis4)
          · have z := F4.dis b; rw [upd_ne q] at z; exact z
        · have own4 : owned ε2 = owned δ1 := by
            rw [(p4 rfl).1, og, wipeS_own hno]
          exact (F4.own a (by rw [own4]; exact ha)).2
      cases b with
      | false =>
        rw [if_neg Bool.false_ne_true]
        refine ⟨G4, xs, e3.trans e4, eH3.trans eH4, F4', hx4, ?_, dis4⟩
        rw [take_get hd, List.filterMap_append]
        have e0 : [d].filterMap kf = [] := by simp [w4.2 rfl]
        rw [e0, List.append_nil]
        exact hr3.mono e4
      | true =>
        rw [if_pos rfl]
        refine w4.1 rfl _ G4 H4 σ1 _ F4 trivial fun r ε5 v5 G5 H5 w5 e5 F5 rv5 p5 => ?_
        obtain ⟨eε5, eH5⟩ := p5 rfl
        obtain ⟨z, hz, hkf⟩ := w5
        have hx5 := eH5 D _ hx4
        have dis5 : G5 D = none := F5.disN upd_same (fun _ z => nomatch z)
        have own5 : ∀ a ∈ owned δ1, G5 a = none := fun a ha => (F5.own a (by rw [eε5, (p4 rfl).1, og, wipeS_own hno]; exact ha)).2
        have F5' : Frame c.K B G5 H5 σ δ1 := (F4'.ex eH5).more e5 F5.exG (fun b => by
          by_cases q : b = D
          · subst q; exact .inr (.inl dis5)
          · have z := F5.dis b; rw [upd_ne q] at z; exact z) own5
        have rep5 : ∃ G6, Ex G5 G6 ∧ Frame c.K B G6 H5 σ δ1 ∧ Rep c.K G6 z v5 ∧ G6 D = none := by
          cases r with
          | d y =>
            cases hz
            exact ⟨G5, Ex.refl G5, F5', rv5, dis5⟩
          | bor i a => cases hz
          | deep a y gs => cases hz
          | own a y =>
            cases hz
            obtain ⟨q1, q2, q3, q4, q5⟩ := rv5
            subst q1
            obtain ⟨o, ho⟩ := q2.there
            have haD : a ≠ D := fun q => by subst q; rw [upd_same] at q3; cases q3
            rw [upd_ne haD] at q3
            have hao : a ∉ owned δ1 := fun q => q5 (by rw [eε5, (p4 rfl).1, og, wipeS_own hno]; exact q)
            exact ⟨upd G5 a o, Ex.new q4, F5'.freeze ho q3 q4 hao, q2.rep ho q4, by rw [upd_ne haD.symm]; exact dis5⟩
        obtain ⟨G6, e6, F6, hr6, dis6⟩ := rep5
        have hlx : xs.length ≤ 100000 := by
          rw [reps_length hr3]
          exact Nat.le_trans (List.length_filterMap_le _ _) (by rw [List.length_take]; omega)
        have hout : Ex H1 (upd H5 D (.lst (xs ++ [v5]))) := Ex.mut ((eH3.trans eH4).trans eH5) hD
        refine ⟨xs, hx5, Nat.lt_of_le_of_lt hlx (by rw [sizeLine_eq]; decide), G6, xs ++ [v5], (e3.trans e4).trans (e5.trans e6), hout, ?_, upd_same, ?_, dis6⟩
        · -- D is foreign to the frame
          have mv : ∀ {G : Hp}, Frame c.K B G H5 σ δ1 → G D = none → Frame c.K B G (upd H5 D (.lst (xs ++ [v5]))) σ δ1 := fun {G} F hG => by
            refine ⟨fun b o e => ?_, fun b o e => ?_, F.dis, F.sl.ex (Ex.refl G) (fun a ha => upd_ne (hOD a ha)), F.own, F.nd⟩
            · by_cases q : b = D
              · subst q; rw [hB] at e; cases e
              · rw [upd_ne q]; exact F.exB b o e
            · by_cases q : b = D
              · subst q; rw [hG] at e; cases e
              · rw [upd_ne q]; exact F.exG b o e
          exact mv F6 dis6
        · rw [take_get hd, List.filterMap_append]
          have e0 : [d].filterMap kf = [z] := by simp [hkf]
          rw [e0]
          exact reps_append (hr3.mono ((e4.trans e5).trans e6)) (reps_one hr6)
    rcases hY i H2 y H3 hi yy with ⟨q1, d, hd, hrep⟩ | ⟨T, o, d, hT, q1, hd, hrep⟩
    · subst q1
      exact go d G' H3 hd e2 eH F2 hx hr hGD (hrep.mono e2)
    · subst q1
      have hT' := (F2.fresh hT).2.1
      have hTD : D ≠ T := fun q => by subst q; rw [hx] at hT; cases hT
      exact go d (upd G' T o) _ hd (e2.trans (Ex.new hT')) (eH.trans (Ex.new hT)) (F2.laid hT) (by rw [upd_ne hTD]; exact hx) (hr.mono (Ex.new hT')) (by rw [upd_ne hTD]; exact hGD) (hrep G' e2 hT')
  · obtain ⟨G', xs, e2, eH, F2, hx, hr, hGD⟩ := pv
    rw [List.take_length] at hr
    exact k _ δ1 _ G' H' (w D) (e1.trans e2) F2 ⟨rfl, ⟨xs, hx, hr⟩, hB, hGD, hO⟩ fun hp => ⟨(p1 hp).1, (p1 hp).2.trans eH⟩
end
end DL

/-! DL4: operators, built-ins and methods, by data. -/
namespace DL
open PySem PySem.Spec PyProof.Rows L2
open Evl (Ex)
section
variable {X : Cx}
/-- list + list, whatever is read -/
def rCatR : R2 := fun x y H Q => ∃ l b xs zs, x = .ref l ∧ y = .ref b ∧ Rd H l (.lst xs) ∧ Rd H b (.lst zs) ∧ xs.length + zs.length ≤ sizeLine ∧ ∀ p, H p = none → Q (.ref p) (upd H p (.lst (xs ++ zs)))
theorem op_catR : OpR X (binaryOp .Add) rCatR := by
  intro pins s σ H x y v u Q I rx ry h
  obtain ⟨l, b, xs, zs, rfl, rfl, hH, hB, hz, q⟩ := h
  cases rx
  cases ry
  obtain ⟨z, its, n, r, e⟩ := (hH.ok I.hok : ObjOk X.prog X.w H s.heap l (.lst xs))
  obtain ⟨z2, its2, n2, r2, e2⟩ := (hB.ok I.hok : ObjOk X.prog X.w H s.heap b (.lst zs))
  have hl := r.length
  have hl2 := r2.length
  refine PySem.P.add_list e e2 ?_ (by rw [List.size_toArray, List.size_toArray]; omega)
  have ea : its.toArray ++ its2.toArray = (its ++ its2).toArray := by simp
  rw [ea]
  exact ⟨.ref _, _, I.lnew (t' := s.toks) (r.append r2) (by rw [List.length_append]; omega), rfl, q _ I.fresh⟩
def rAddS : R2 := fun x y H Q => ∃ i j, x = .str i ∧ y = .str j ∧ i.length + j.length ≤ sizeLine ∧ Q (.str (i ++ j)) H
def rAddA : R2 := fun x y H Q => rI0 (fun i j => .int (i + j)) x y H Q ∨ rAddS x y H Q ∨ rCatR x y H Q
theorem op_addA : OpR X (binaryOp .Add) rAddA := op_add.or (OpR.or op_add_str op_catR)
def rMulA : R2 := fun x y H Q => rI CMul (fun i j => .int (i * j)) x y H Q ∨ rI CMulX (fun i j => .int (i * j)) x y H Q
theorem op_mulA : OpR X (binaryOp .Mult) rMulA := op_mul.or op_mulX
def rEqA (K : PySem.W.Frag) : R2 := fun x y H Q => rEq x y H Q ∨ rEqD K x y H Q
def rNeA (K : PySem.W.Frag) : R2 := fun x y H Q => rNe x y H Q ∨ rNeD K x y H Q
theorem op_eqA (hu : X.A.units + 64 < cLine) : OpR X (compareOp .Eq) (rEqA X.K) := op_eq.or (op_eqD hu)
theorem op_neA (hu : X.A.units + 64 < cLine) : OpR X (compareOp .NotEq) (rNeA X.K) := op_ne.or (op_neD hu)
def rInS : R2 := fun x y H Q => ∃ (c : Nat) (z : Str), x = .str ⟨#[c]⟩ ∧ y = .str z ∧ Q (.bl (decide (c ∈ z.cps.toList))) H
def rNotInS : R2 := fun x y H Q => ∃ (c : Nat) (z : Str), x = .str ⟨#[c]⟩ ∧ y = .str z ∧ Q (.bl (!decide (c ∈ z.cps.toList))) H
def rInA (K : PySem.W.Frag) : R2 := fun x y H Q => rInS x y H Q ∨ rIn K false x y H Q
def rNotInA (K : PySem.W.Frag) : R2 := fun x y H Q => rNotInS x y H Q ∨ rIn K true x y H Q
theorem op_inA : OpR X (compareOp .In) (rInA X.K) := op_in_sign.or op_in_seq
theorem op_notInA : OpR X (compareOp .NotIn) (rNotInA X.K) := op_notIn_sign.or op_notIn_seq
end
section
variable {c : Cd}
theorem opd_or1 {r r' : R2} {f : Dop} (h : OpD c r f) : OpD c (fun x y H Q => r x y H Q ∨ r' x y H Q) f := fun B G H σ δ r1 r2 v1 v2 x y Ψ Q F h1 h2 e1 e2 hf k => .inl (h B G H σ δ r1 r2 v1 v2 x y Ψ Q F h1 h2 e1 e2 hf k)
/-- + -/
def dAdd : Dop
  | .int i, .int j, k => k (.d (.int (i + j)))
  | .str x, .str y, k => x.length + y.length ≤ 16000000 ∧ k (.d (.str (x ++ y)))
  | .lst xs, .lst ys, k => xs.length + ys.length ≤ 100000 ∧ ∀ a, k (.own a (.lst (xs ++ ys)))
  | _, _, _ => False
theorem opd_add : OpD c rAddA dAdd := by
  intro B G H σ δ r1 r2 v1 v2 x y Ψ Q F h1 h2 e1 e2 hf k
  cases x with
  | int i =>
    cases y with
    | int j =>
      have q1 := view_repH F h1 e1
      have q2 := view_repH F h2 e2
      unfold Rep at q1 q2
      exact .inl ⟨i, j, q1, q2, k (.d (.int (i + j))) _ G H hf (Ex.refl G) (Ex.refl H) F (rep_int (K := c.K) (G := G))⟩
    | _ => exact hf.elim
  | str i =>
    cases y with
    | str j =>
      have q1 := view_repH F h1 e1
      have q2 := view_repH F h2 e2
      unfold Rep at q1 q2
      exact .inr (.inl ⟨i, j, q1, q2, size16 hf.1, k (.d (.str (i ++ j))) _ G H hf.2 (Ex.refl G) (Ex.refl H) F (rep_str (K := c.K) (G := G))⟩)
    | _ => exact hf.elim
  | lst xs =>
    cases y with
    | lst ys =>
      obtain ⟨a, vs, q1, q2, q3⟩ := view_lst F h1 e1
      obtain ⟨b, ws, q4, q5, q6⟩ := view_lst F h2 e2
      refine .inr (.inr ⟨a, b, vs, ws, q1, q4, q2, q5, ?_, fun q hq => ?_⟩)
      · rw [reps_length q3, reps_length q6]
        exact Evl.sz_of hf.1
      · exact k _ _ G _ (hf.2 q) (Ex.refl G) (Ex.new hq) (F.ex (Ex.new hq)) (rv_newL F hq (reps_append q3 q6))
    | _ => exact hf.elim
  | _ => exact hf.elim
theorem opd_sub : OpD c (rI0 fun i j => .int (i - j)) (dInt0 fun i j => .int (i - j)) := opd_I0 fun G i j => rep_int
theorem opd_mul : OpD c rMulA (dInt (fun i j => CMul i j ∨ CMulX i j) fun i j => .int (i * j)) := by
  intro B G H σ δ r1 r2 v1 v2 x y Ψ Q F h1 h2 e1 e2 hf k
  cases x with
  | int i =>
    cases y with
    | int j =>
      have q1 := view_repH F h1 e1
      have q2 := view_repH F h2 e2
      unfold Rep at q1 q2
      have kk := k (.d (.int (i * j))) (.int (i * j)) G H hf.2 (Ex.refl G) (Ex.refl H) F (rep_int (K := c.K) (G := G))
      rcases hf.1 with z | z
      · exact .inl ⟨i, j, q1, q2, z, kk⟩
      · exact .inr ⟨i, j, q1, q2, z, kk⟩
    | _ => exact hf.elim
  | _ => exact hf.elim
theorem opd_fdiv : OpD c (rI CDivW fun i j => .int (i / j)) (dInt CDivW fun i j => .int (i / j)) := opd_I fun G i j => rep_int
theorem opd_mod : OpD c (rI (fun _ j => 0 < j) fun i j => .int (i % j)) (dInt (fun _ j => 0 < j) fun i j => .int (i % j)) := opd_I fun G i j => rep_int
theorem opd_pow : OpD c (rI CPow fun i j => .int (i ^ j.toNat)) (dInt CPow fun i j => .int (i ^ j.toNat)) := opd_I fun G i j => rep_int
theorem opd_shl : OpD c (rI CPow fun i j => .int (i * 2 ^ j.toNat)) (dInt CPow fun i j => .int (i * 2 ^ j.toNat)) := opd_I fun G i j => rep_int
theorem opd_shr : OpD c (rI (fun _ j => 0 ≤ j) fun i j => .int (i / 2 ^ j.toNat)) (dInt (fun _ j => 0 ≤ j) fun i j => .int (i / 2 ^ j.toNat)) := opd_I fun G i j => rep_int
theorem opd_lt : OpD c (rI0 fun i j => .bl (decide (i < j))) (dInt0 fun i j => .bl (decide (i < j))) := opd_I0 fun G i j => rep_bl
theorem opd_le : OpD c (rI0 fun i j => .bl (decide (i ≤ j))) (dInt0 fun i j => .bl (decide (i ≤ j))) := opd_I0 fun G i j => rep_bl
theorem opd_gt : OpD c (rI0 fun i j => .bl (decide (j < i))) (dInt0 fun i j => .bl (decide (j < i))) := opd_I0 fun G i j => rep_bl
theorem opd_ge : OpD c (rI0 fun i j => .bl (decide (j ≤ i))) (dInt0 fun i j => .bl (decide (j ≤ i))) := opd_I0 fun G i j => rep_bl
/-- == of scalars -/
def sEq : D → D → Option Bool
  | .int i, .int j => some (decide (i = j))
  | .str i, .str j => some (decide (i = j))
  | .bl i, .bl j => some (decide (i = j))
  | .non, .non => some true
  | .non, .int _ => some false | .int _, .non => some false | .non, .bl _ => some false | .bl _, .non => some false | .non, .str _ => some false | .str _, .non => some false
  | .int _, .str _ => some false | .str _, .int _ => some false | .bl _, .str _ => some false | .str _, .bl _ => some false
  | _, _ => none
mutual
def py : D → Option PyData
  | .non => some .none
  | .bl b => some (.bool b)
  | .int i => some (.int i)
  | .str x => some (.str x)
  | .lst xs => (pys xs).map .list
  | .tup xs => (pys xs).map .tuple
  | _ => none
def pys : List D → Option (List PyData)
  | [] => some []
  | x :: xs => match py x with
    | some d => (pys xs).map (d :: ·)
    | none => none
end
mutual
theorem py_dp {K : PySem.W.Frag} {H : Hp} : ∀ {x : D} {v : V} {d : PyData}, py x = some d → Rep K H x v → Dp K H v d
  | .non, v, d, e, h => by unfold Rep at h; unfold py at e; subst h; cases e; exact .non
  | .bl _, v, d, e, h => by unfold Rep at h; unfold py at e; subst h; cases e; exact .bl _
  | .int _, v, d, e, h => by unfold Rep at h; unfold py at e; subst h; cases e; exact .int _
  | .str _, v, d, e, h => by unfold Rep at h; unfold py at e; subst h; cases e; exact .str _
  | .lst xs, v, d, e, h => by
    unfold Rep at h
    unfold py at e
    obtain ⟨a, ys, e1, h1, h2⟩ := h
    subst e1
    cases q : pys xs with
    | none => rw [q] at e; cases e
    | some ds => rw [q] at e; cases e; exact .lst (.inl (Rd.of h1)) (pys_dp q h2)
  | .tup xs, v, d, e, h => by
    unfold Rep at h
    unfold py at e
    obtain ⟨a, ys, e1, h1, h2⟩ := h
    subst e1
    cases q : pys xs with
    | none => rw [q] at e; cases e
    | some ds => rw [q] at e; cases e; exact .tup (SqT.of h1) (pys_dp q h2)
  | .ty _, v, d, e, h => by unfold py at e; cases e
  | .ro _, v, d, e, h => by unfold py at e; cases e
  | .ptr _, v, d, e, h => by unfold py at e; cases e
  | .dct _, v, d, e, h => by unfold py at e; cases e
  | .obj _ _, v, d, e, h => by unfold py at e; cases e
  | .dcT _, v, d, e, h => by unfold py at e; cases e
theorem pys_dp {K : PySem.W.Frag} {H : Hp} : ∀ {xs : List D} {vs : List V} {ds : List PyData}, pys xs = some ds → Reps K H xs vs → DpAll K H vs ds
  | [], vs, ds, e, h => by unfold Reps at h; unfold pys at e; subst h; cases e; exact .nil
  | x :: xs, vs, ds, e, h => by
    unfold Reps at h
    obtain ⟨v, vr, e1, h1, h2⟩ := h
    subst e1
    unfold pys at e
    cases q : py x with
    | none => rw [q] at e; cases e
    | some d =>
      rw [q] at e
      simp only at e
      cases q2 : pys xs with
      | none => rw [q2] at e; cases e
      | some es => rw [q2] at e; cases e; exact .cons (py_dp q h1) (pys_dp q2 h2)
end
def dEqF (f : Bool → Bool) : Dop := fun x y k => (∃ b, sEq x y = some b ∧ k (.d (.bl (f b)))) ∨ ∃ d e, py x = some d ∧ py y = some e ∧ SeqAt.shaped d = true ∧ SeqAt.shaped e = true ∧ k (.d (.bl (f (PyData.eqv d e))))
theorem sEq_scal {H : Hp} {K : PySem.W.Frag} {x y : D} {v w : V} {b : Bool} (h : sEq x y = some b) (h1 : Rep K H x v) (h2 : Rep K H y w) : scal v w = true ∧ decide (v = w) = b := by
  cases x <;> cases y <;> first | (cases h; done) | (unfold Rep at h1 h2; subst h1; subst h2; cases h; exact ⟨rfl, by simp⟩)
theorem opd_eq : OpD c (rEqA c.K) (dEqF id) := by
  intro B G H σ δ r1 r2 v1 v2 x y Ψ Q F h1 h2 e1 e2 hf k
  have q1 := view_repH F h1 e1
  have q2 := view_repH F h2 e2
  rcases hf with ⟨b, hb, kb⟩ | ⟨d, e, hd, he, sd, se, kb⟩
  · obtain ⟨z1, z2⟩ := sEq_scal hb q1 q2
    refine .inl ⟨z1, ?_⟩
    rw [z2]
    exact k _ _ G H kb (Ex.refl G) (Ex.refl H) F (rv_bl (K := c.K))
  · exact .inr ⟨d, e, py_dp hd q1, py_dp he q2, sd, se, k _ _ G H kb (Ex.refl G) (Ex.refl H) F (rv_bl (K := c.K))⟩
theorem opd_ne : OpD c (rNeA c.K) (dEqF not) := by
  intro B G H σ δ r1 r2 v1 v2 x y Ψ Q F h1 h2 e1 e2 hf k
  have q1 := view_repH F h1 e1
  have q2 := view_repH F h2 e2
  rcases hf with ⟨b, hb, kb⟩ | ⟨d, e, hd, he, sd, se, kb⟩
  · obtain ⟨z1, z2⟩ := sEq_scal hb q1 q2
    refine .inl ⟨z1, ?_⟩
    rw [z2]
    exact k _ _ G H kb (Ex.refl G) (Ex.refl H) F (rv_bl (K := c.K))
  · exact .inr ⟨d, e, py_dp hd q1, py_dp he q2, sd, se, k _ _ G H kb (Ex.refl G) (Ex.refl H) F (rv_bl (K := c.K))⟩
/-! in -/
def flatD : D → Bool
  | .non => true | .bl _ => true | .int _ => true | .str _ => true | _ => false
/-- == of flat things, as in tells them -/
def eqF : D → D → Bool
  | .int i, .int j => decide (i = j)
  | .str i, .str j => decide (i = j)
  | .bl i, .bl j => decide (i = j)
  | .non, .non => true
  | .int i, .bl b => decide (i = if b then 1 else 0)
  | .bl b, .int i => decide (i = if b then 1 else 0)
  | _, _ => false
theorem flat_rep {K : PySem.W.Frag} {H : Hp} {x : D} {v : V} (h : flatD x = true) (r : Rep K H x v) : flatV v = true := by
  cases x <;> first | (cases h; done) | (unfold Rep at r; subst r; rfl)
theorem flats_rep {K : PySem.W.Frag} {H : Hp} : ∀ {xs : List D} {vs : List V}, xs.all flatD = true → Reps K H xs vs → vs.all flatV = true
  | [], vs, _, r => by unfold Reps at r; subst r; rfl
  | x :: xs, vs, h, r => by
    unfold Reps at r
    obtain ⟨v, vr, e, h1, h2⟩ := r
    subst e
    rw [List.all_cons, Bool.and_eq_true] at h
    rw [List.all_cons, flat_rep h.1 h1, flats_rep h.2 h2]
    rfl
theorem eqF_V {K : PySem.W.Frag} {H : Hp} {x y : D} {v w : V} (hx : flatD x = true) (hy : flatD y = true) (r1 : Rep K H x v) (r2 : Rep K H y w) : eqV v w = eqF x y := by
  cases x <;> first | (cases hx; done) | (cases y <;> first | (cases hy; done) | (unfold Rep at r1 r2; subst r1; subst r2; simp [eqV, eqF, Bool.beq_eq_decide_eq, eq_comm]; done) | (unfold Rep at r1 r2; subst r1; subst r2; rename_i a b; cases a <;> simp [eqV, eqF, eq_comm]; done) | (unfold Rep at r1 r2; subst r1; subst r2; rename_i a b; cases b <;> simp [eqV, eqF, eq_comm]; done))
def inD (x : D) (xs : List D) : Bool := xs.any fun y => eqF y x
theorem inD_V {K : PySem.W.Frag} {H : Hp} {x : D} {v : V} (hx : flatD x = true) (r1 : Rep K H x v) : ∀ {ys : List D} {ws : List V}, ys.all flatD = true → Reps K H ys ws → inV v ws = inD x ys
  | [], ws, _, r => by unfold Reps at r; subst r; rfl
  | y :: ys, ws, h, r => by
    unfold Reps at r
    obtain ⟨w, wr, e, h1, h2⟩ := r
    subst e
    rw [List.all_cons, Bool.and_eq_true] at h
    have ih := inD_V hx r1 h.2 h2
    unfold inV inD at ih ⊢
    rw [List.any_cons, List.any_cons, ih, eqF_V h.1 hx h1 r1]
def dIn (f : Bool → Bool) : Dop
  | .str x, .str y, k => ∃ ch, x = ⟨#[ch]⟩ ∧ k (.d (.bl (f (decide (ch ∈ y.cps.toList)))))
  | x, .lst ys, k => flatD x = true ∧ ys.all flatD = true ∧ k (.d (.bl (f (inD x ys))))
  | x, .tup ys, k => flatD x = true ∧ ys.all flatD = true ∧ k (.d (.bl (f (inD x ys))))
  | _, _, _ => False
theorem opd_inF (neg : Bool) {r : R2} (hr : ∀ v w H Q, (∃ (ch : Nat) (z : Str), v = .str ⟨#[ch]⟩ ∧ w = .str z ∧ Q (.bl (neg ^^ decide (ch ∈ z.cps.toList))) H) ∨ rIn c.K neg v w H Q → r v w H Q) : OpD c r (dIn (neg ^^ ·)) := by
  intro B G H σ δ r1 r2 v1 v2 x y Ψ Q F h1 h2 e1 e2 hf k
  apply hr
  have q1 := view_repH F h1 e1
  cases y with
  | str z =>
    cases x with
    | str x =>
      obtain ⟨ch, ex, kk⟩ := hf
      subst ex
      have q2 := view_repH F h2 e2
      unfold Rep at q1 q2
      exact .inl ⟨ch, z, q1, q2, k _ _ G H kk (Ex.refl G) (Ex.refl H) F (rv_bl (K := c.K))⟩
    | _ => exact hf.elim
  | lst ys =>
    have hf' : flatD x = true ∧ ys.all flatD = true ∧ Ψ (.d (.bl (neg ^^ inD x ys))) := by cases x <;> exact hf
    obtain ⟨a, ws, q4, q5, q6⟩ := view_lst F h2 e2
    refine .inr ⟨a, ws, q4, .inl (.inl q5), flat_rep hf'.1 q1, flats_rep hf'.2.1 q6, ?_⟩
    rw [inD_V hf'.1 q1 hf'.2.1 (q6.mono F.exG)]
    have kk := k _ _ G H hf'.2.2 (Ex.refl G) (Ex.refl H) F (rv_bl (K := c.K))
    cases neg <;> simpa using kk
  | tup ys =>
    have hf' : flatD x = true ∧ ys.all flatD = true ∧ Ψ (.d (.bl (neg ^^ inD x ys))) := by cases x <;> exact hf
    obtain ⟨a, ws, q4, q5, q6⟩ := view_tup F h2 e2
    refine .inr ⟨a, ws, q4, .inr q5, flat_rep hf'.1 q1, flats_rep hf'.2.1 q6, ?_⟩
    rw [inD_V hf'.1 q1 hf'.2.1 (q6.mono F.exG)]
    have kk := k _ _ G H hf'.2.2 (Ex.refl G) (Ex.refl H) F (rv_bl (K := c.K))
    cases neg <;> simpa using kk
  | _ => cases x <;> exact hf.elim
theorem opd_in : OpD c (rInA c.K) (dIn (false ^^ ·)) := opd_inF false fun v w H Q h => by
  rcases h with ⟨ch, z, a, b, q⟩ | h
  · exact .inl ⟨ch, z, a, b, by simpa using q⟩
  · exact .inr h
theorem opd_notIn : OpD c (rNotInA c.K) (dIn (true ^^ ·)) := opd_inF true fun v w H Q h => by
  rcases h with ⟨ch, z, a, b, q⟩ | h
  · exact .inl ⟨ch, z, a, b, by simpa using q⟩
  · exact .inr h
/-! subscripts -/
def dIx : Dop
  | .lst xs, .int i, k => ∃ x, atI xs i = some x ∧ k (.d x)
  | .tup xs, .int i, k => ∃ x, atI xs i = some x ∧ k (.d x)
  | .ro xs, .int i, k => ∃ x, atI xs i = some x ∧ k (.d x)
  | .str z, .int i, k => z.length ≤ 16000000 ∧ ∃ ch, atI z.cps.toList i = some ch ∧ k (.d (.str ⟨#[ch]⟩))
  | _, _, _ => False
theorem reps_atI {K : PySem.W.Frag} {G : Hp} {xs : List D} {vs : List V} {i : Int} {x : D} (h : Reps K G xs vs) (e : atI xs i = some x) : ∃ v, atI vs i = some v ∧ Rep K G x v := by
  unfold atI at e ⊢
  rw [reps_length h]
  cases q : ixN xs.length i with
  | none => rw [q] at e; cases e
  | some j =>
    rw [q] at e
    exact reps_get h e
theorem opd_ix : OpD c (rIx c.K) dIx := by
  intro B G H σ δ r1 r2 v1 v2 x y Ψ Q F h1 h2 e1 e2 hf k
  cases y with
  | int i =>
    have q2 := view_repH F h2 e2
    unfold Rep at q2
    cases x with
    | lst xs =>
      obtain ⟨z, hz, kk⟩ := hf
      obtain ⟨a, vs, q3, q4, q5⟩ := view_lst F h1 e1
      obtain ⟨v, q6, q7⟩ := reps_atI q5 hz
      exact .inl ⟨a, vs, i, v, q3, q2, .inl q4, q6, k _ _ G H kk (Ex.refl G) (Ex.refl H) F q7⟩
    | ro xs =>
      obtain ⟨z, hz, kk⟩ := hf
      obtain ⟨a, vs, q3, q4, q5⟩ := view_ro F h1 e1
      obtain ⟨v, q6, q7⟩ := reps_atI q5 hz
      exact .inl ⟨a, vs, i, v, q3, q2, q4, q6, k _ _ G H kk (Ex.refl G) (Ex.refl H) F q7⟩
    | tup xs =>
      obtain ⟨z, hz, kk⟩ := hf
      obtain ⟨a, vs, q3, q4, q5⟩ := view_tup F h1 e1
      obtain ⟨v, q6, q7⟩ := reps_atI q5 hz
      exact .inr (.inl ⟨a, vs, i, v, q3, q2, q4, q6, k _ _ G H kk (Ex.refl G) (Ex.refl H) F q7⟩)
    | str z =>
      obtain ⟨hl, ch, hc, kk⟩ := hf
      have q1 := view_repH F h1 e1
      unfold Rep at q1
      exact .inr (.inr ⟨z, i, ch, q1, q2, size16 hl, hc, k _ _ G H kk (Ex.refl G) (Ex.refl H) F (rep_str (K := c.K) (G := G))⟩)
    | _ => exact hf.elim
  | _ => cases x <;> exact hf.elim
end
end DL

/-! DL5: built-ins and methods, by data. -/
namespace DL
open PySem PySem.Spec PyProof.Rows L2
open Evl (Ex)
section
variable {X : Cx}
def rMulS : R2 := fun x y H Q => ∃ (z : Str) (n : Int), x = .str z ∧ y = .int n ∧ (z.length ≤ 1000 ∧ n ≤ 4000 ∧ -4000 ≤ n) ∧ Q (.str (Txt.mul z n)) H
theorem mulOk_small {z : Str} {n : Int} (h : z.length ≤ 1000 ∧ n ≤ 4000 ∧ -4000 ≤ n) : MulOk z n := by
  obtain ⟨h1, h2, h3⟩ := h
  refine ⟨?_, fun h4 _ => ?_, fun h4 _ => ?_⟩
  · rw [decide_eq_false (by omega), decide_eq_false (by omega)]; rfl
  · have : (2 ^ 63 - 1) / (4000 : Int) ≤ (2 ^ 63 - 1) / n := by
      have hn : 0 < n := by omega
      exact (Int.le_ediv_iff_mul_le hn).mpr (Int.le_trans (Int.mul_le_mul_of_nonneg_left h2 (by decide)) (by decide))
    have e : (2 ^ 63 - 1) / (4000 : Int) = 2305843009213693 := by decide
    omega
  · have h5 : z.length * n.toNat ≤ 1000 * 4000 := Nat.mul_le_mul h1 (by omega)
    unfold Builtin.Str.tooLong
    rw [decide_eq_false]
    have := sizeLine_eq
    omega
theorem op_mulS : OpR X (binaryOp .Mult) rMulS := by
  intro pins s σ H x y v u Q I rx ry h
  obtain ⟨z, n, rfl, rfl, hz, q⟩ := h
  obtain ⟨t, rfl⟩ := rx
  obtain ⟨t', rfl⟩ := ry
  exact SB.mul (mulOk_small hz) fun t' k => ⟨.str _, H, I.tok _, ⟨_, rfl⟩, q⟩
end
section
variable {c : Cd} {p : Bool} {δ : List Sl} {te ta tb : TE} {Φ : R → List Sl → Prop}
def rMulB : R2 := fun x y H Q => rMulA x y H Q ∨ rMulS x y H Q
theorem op_mulB {X : Cx} : OpR X (binaryOp .Mult) rMulB := op_mulA.or op_mulS
def dMul : Dop
  | .int i, .int j, k => (CMul i j ∨ CMulX i j) ∧ k (.d (.int (i * j)))
  | .str z, .int n, k => (z.length ≤ 1000 ∧ n ≤ 4000 ∧ -4000 ≤ n) ∧ k (.d (.str (Txt.mul z n)))
  | _, _, _ => False
theorem opd_mulB : OpD c rMulB dMul := by
  intro B G H σ δ r1 r2 v1 v2 x y Ψ Q F h1 h2 e1 e2 hf k
  cases y with
  | int j =>
    have q2 := view_repH F h2 e2
    unfold Rep at q2
    cases x with
    | int i =>
      have q1 := view_repH F h1 e1
      unfold Rep at q1
      have kk := k (.d (.int (i * j))) (.int (i * j)) G H hf.2 (Ex.refl G) (Ex.refl H) F (rep_int (K := c.K) (G := G))
      rcases hf.1 with z | z
      · exact .inl (.inl ⟨i, j, q1, q2, z, kk⟩)
      · exact .inl (.inr ⟨i, j, q1, q2, z, kk⟩)
    | str z =>
      have q1 := view_repH F h1 e1
      unfold Rep at q1
      exact .inr ⟨z, j, q1, q2, hf.1, k _ _ G H hf.2 (Ex.refl G) (Ex.refl H) F (rep_str (K := c.K) (G := G))⟩
    | _ => exact hf.elim
  | _ => cases x <;> exact hf.elim
/-! a unary operation -/
theorem we_neg (h : WE c p ta δ fun r δ1 => ∃ i, r = .d (.int i) ∧ Φ (.d (.int (-i))) δ1) : WE c p (tUn (rU fun i => .int (-i)) ta) δ Φ := by
  intro B G H σ Q F x k
  refine h B G H σ _ F x fun r1 δ1 v1 G1 H1 w1 e1 F1 rv1 p1 => ?_
  obtain ⟨i, e, w⟩ := w1
  subst e
  have e2 : v1 = .int i := by have h : Rep c.K G1 (.int i) v1 := rv1; unfold Rep at h; exact h
  exact ⟨i, e2, k _ δ1 _ G1 H1 w e1 F1 (rep_int (K := c.K) (G := G1)) p1⟩
/-! is None, is True -/
def isNon : D → Bool
  | .non => true
  | _ => false
theorem rep_non_iff {K : PySem.W.Frag} {G : Hp} {x : D} {v : V} (h : Rep K G x v) : decide (v = .non) = isNon x := by
  cases x <;> first | (unfold Rep at h; subst h; rfl) | (unfold Rep at h; obtain ⟨a, _, e, _⟩ := h; subst e; rfl) | (unfold Rep at h; obtain ⟨a, _, _, e, _⟩ := h; subst e; rfl)
def dIsN (f : Bool → Bool) : Dop := fun x y k => y = .non ∧ k (.d (.bl (f (isNon x))))
theorem opd_isN : OpD c (fun x y H Q => y = .non ∧ Q (.bl (decide (x = .non))) H) (dIsN id) := opd_H fun H v1 v2 x y Ψ Q h1 h2 hf k => by
  obtain ⟨e, w⟩ := hf
  subst e
  unfold Rep at h2
  refine ⟨h2, ?_⟩
  rw [rep_non_iff h1]
  exact k _ _ w fun G => rep_bl
theorem opd_notN : OpD c (fun x y H Q => y = .non ∧ Q (.bl (!decide (x = .non))) H) (dIsN not) := opd_H fun H v1 v2 x y Ψ Q h1 h2 hf k => by
  obtain ⟨e, w⟩ := hf
  subst e
  unfold Rep at h2
  refine ⟨h2, ?_⟩
  rw [rep_non_iff h1]
  exact k _ _ w fun G => rep_bl
def dIsB (f : Bool → Bool) : Dop
  | .bl a, .bl b, k => k (.d (.bl (f (decide (a = b)))))
  | _, _, _ => False
theorem opd_isB : OpD c rIsB (dIsB id) := opd_H fun H v1 v2 x y Ψ Q h1 h2 hf k => by
  cases x with
  | bl a =>
    cases y with
    | bl b =>
      unfold Rep at h1 h2
      exact ⟨a, b, h1, h2, k _ _ hf fun G => rep_bl⟩
    | _ => exact hf.elim
  | _ => exact hf.elim
theorem opd_notB : OpD c rNotB (dIsB not) := opd_H fun H v1 v2 x y Ψ Q h1 h2 hf k => by
  cases x with
  | bl a =>
    cases y with
    | bl b =>
      unfold Rep at h1 h2
      exact ⟨a, b, h1, h2, k _ _ hf fun G => rep_bl⟩
    | _ => exact hf.elim
  | _ => exact hf.elim
/-! ### slices -/
def WO (c : Cd) (p : Bool) (to : TO) (δ : List Sl) (Φ : Option Int → List Sl → Prop) : Prop :=
  ∀ (B G H : Hp) (σ : St) (Q : Option Int → Hp → Prop), Frame c.K B G H σ δ → c.xr B G →
    (∀ o δ' G' H', Φ o δ' → Ex G G' → Frame c.K B G' H' σ δ' → (p = true → δ' = δ ∧ Ex H H') → Q o H') → to σ H Q
theorem wo_no {Ψ : Option Int → List Sl → Prop} (h : Ψ none δ) : WO c p tNoPart δ Ψ := fun B G H σ Q F x k => k none δ G H h (Ex.refl G) F fun _ => ⟨rfl, Ex.refl H⟩
theorem wo_part {Ψ : Option Int → List Sl → Prop} (h : WE c p te δ fun r δ1 => ∃ i, r = .d (.int i) ∧ Ψ (some i) δ1) : WO c p (tPart te) δ Ψ := by
  intro B G H σ Q F x k
  refine h B G H σ _ F x fun r1 δ1 v1 G1 H1 w1 e1 F1 rv1 p1 => ?_
  obtain ⟨i, e, w⟩ := w1
  subst e
  have e2 : v1 = .int i := by have h : Rep c.K G1 (.int i) v1 := rv1; unfold Rep at h; exact h
  exact ⟨i, e2, k _ δ1 G1 H1 w e1 F1 p1⟩
def rSlA (K : PySem.W.Frag) : V → Option Int → Option Int → Hp → VK → Prop := fun x lo hi H Q => rSlL K x lo hi H Q ∨ rSlS x lo hi H Q
theorem sl_A {X : Cx} : L2.SlR X (rSlA X.K) := sl_list.or sl_str
def cutD (xs : List D) (lo hi : Option Int) : List D := (xs.drop (HT.sIx xs.length 0 lo)).take (HT.sIx xs.length xs.length hi - HT.sIx xs.length 0 lo)
theorem reps_cut {K : PySem.W.Frag} {G : Hp} {xs : List D} {vs : List V} {lo hi : Option Int} (h : Reps K G xs vs) : Reps K G (cutD xs lo hi) (cutV vs lo hi) := by
  unfold cutD cutV
  rw [reps_length h]
  exact reps_take _ (reps_drop _ h)
def dSl : D → Option Int → Option Int → (R → Prop) → Prop
  | .lst xs, lo, hi, k => ∀ a, k (.own a (.lst (cutD xs lo hi)))
  | .str z, lo, hi, k => z.length ≤ 16000000 ∧ k (.d (.str (cutS z lo hi)))
  | _, _, _, _ => False
theorem we_sl {to th : TO} (h : WE c p te δ fun r1 δ1 => WO c p to δ1 fun lo δ2 => WO c p th δ2 fun hi δ3 => ∃ x, view δ3 (frz r1) = some x ∧ dSl x lo hi fun r => Φ r δ3) : WE c p (tSl (rSlA c.K) te to th) δ Φ := by
  intro B G H σ Q F x k
  refine h B G H σ _ F x fun r1 δ1 v1 G1 H1 w1 e1 F1 rv1 p1 => ?_
  obtain ⟨G1', e1', F1', rw1⟩ := rv1.weak F1
  refine w1 B G1' H1 σ _ F1' (c.mono _ _ _ (e1.trans e1') x) fun lo δ2 G2 H2 w2 e2 F2 p2 => ?_
  refine w2 B G2 H2 σ _ F2 (c.mono _ _ _ ((e1.trans e1').trans e2) x) fun hi δ3 G3 H3 w3 e3 F3 p3 => ?_
  obtain ⟨y, hy, hd⟩ := w3
  have eG := (e1.trans e1').trans (e2.trans e3)
  have rw3 := rw1.mono (e2.trans e3)
  have pp : p = true → δ3 = δ ∧ Ex H H3 := fun hp => ⟨((p3 hp).1.trans (p2 hp).1).trans (p1 hp).1, ((p1 hp).2.trans (p2 hp).2).trans (p3 hp).2⟩
  cases y with
  | lst xs =>
    obtain ⟨a, vs, q1, q2, q3⟩ := view_lst F3 rw3 hy
    exact .inl ⟨a, vs, q1, .inl q2, fun q hq => k _ δ3 _ G3 _ (hd q) eG (F3.ex (Ex.new hq)) (rv_newL F3 hq (reps_cut q3)) fun hp => ⟨(pp hp).1, (pp hp).2.trans (Ex.new hq)⟩⟩
  | str z =>
    have q1 := view_repH F3 rw3 hy
    unfold Rep at q1
    exact .inr ⟨z, q1, size16 hd.1, k _ δ3 _ G3 H3 hd.2 eG F3 (rep_str (K := c.K) (G := G3)) pp⟩
  | _ => exact hd.elim
/-! ### built-ins -/
theorem cad_one {r : List V → Hp → VK → Prop} {f : D → (R → Prop) → Prop} (h : ∀ (B G H : Hp) (σ : St) (δ : List Sl) (r1 : R) (v : V) (x : D) (Ψ : R → Prop) (Q : VK), Frame c.K B G H σ δ → RW c.K G r1 v → view δ r1 = some x → f x Ψ →
    (∀ r v G' H', Ψ r → Ex G G' → Ex H H' → Frame c.K B G' H' σ δ → RV c.K B G' H' δ r v → Q v H') → r [v] H Q) : CaD c r fun ds k => ∃ x, ds = [x] ∧ f x k :=
  cad_1 (fun ds Ψ ⟨x, e, _⟩ => by subst e; rfl) fun B G H σ δ r1 v x Ψ Q F h1 h2 ⟨y, e, hf⟩ k => by cases e; exact h B G H σ δ r1 v x Ψ Q F h1 h2 hf k
theorem cad_two {r : List V → Hp → VK → Prop} {f : D → D → (R → Prop) → Prop} (h : ∀ (B G H : Hp) (σ : St) (δ : List Sl) (r1 r2 : R) (v w : V) (x y : D) (Ψ : R → Prop) (Q : VK), Frame c.K B G H σ δ → RW c.K G r1 v → RW c.K G r2 w → view δ r1 = some x → view δ r2 = some y → f x y Ψ →
    (∀ r v G' H', Ψ r → Ex G G' → Ex H H' → Frame c.K B G' H' σ δ → RV c.K B G' H' δ r v → Q v H') → r [v, w] H Q) : CaD c r fun ds k => ∃ x y, ds = [x, y] ∧ f x y k :=
  cad_2 (fun ds Ψ ⟨x, y, e, _⟩ => by subst e; rfl) fun B G H σ δ r1 r2 v w x y Ψ Q F h1 h2 h3 h4 ⟨x', y', e, hf⟩ k => by cases e; exact h B G H σ δ r1 r2 v w x y Ψ Q F h1 h2 h3 h4 hf k
/-- len -/
def lenD : D → Option Nat
  | .str z => some z.length
  | .lst xs => some xs.length
  | .tup xs => some xs.length
  | .ro xs => some xs.length
  | _ => none
def rLenA (K : PySem.W.Frag) : List V → Hp → VK → Prop := fun xs H Q => ∃ x n, xs = [x] ∧ LenV K x H n ∧ Q (.int n) H
theorem cad_len : CaD c (rLenA c.K) fun ds k => ∃ x, ds = [x] ∧ strOk x ∧ ∃ n, lenD x = some n ∧ k (.d (.int (n : Int))) := cad_one fun B G H σ δ r1 v x Ψ Q F h1 e1 hf k => by
  obtain ⟨hs, n, hn, kk⟩ := hf
  refine ⟨v, n, rfl, ?_, k _ _ G H kk (Ex.refl G) (Ex.refl H) F (rep_int (K := c.K) (G := G))⟩
  cases x with
  | str z => have q := view_repH F h1 e1; unfold Rep at q; subst q; cases hn; exact ⟨size16 hs, rfl⟩
  | lst xs =>
    obtain ⟨a, vs, q1, q2, q3⟩ := view_lst F h1 e1
    subst q1
    cases hn
    exact .inl ⟨vs, .inl q2, (reps_length q3).symm⟩
  | ro xs =>
    obtain ⟨a, vs, q1, q2, q3⟩ := view_ro F h1 e1
    subst q1
    cases hn
    exact .inl ⟨vs, q2, (reps_length q3).symm⟩
  | tup xs =>
    obtain ⟨a, vs, q1, q2, q3⟩ := view_tup F h1 e1
    subst q1
    cases hn
    exact .inr ⟨vs, q2, (reps_length q3).symm⟩
  | _ => cases hn
def rMax2 : List V → Hp → VK → Prop := fun xs H Q => ∃ i j, xs = [.int i, .int j] ∧ Q (.int (if j > i then j else i)) H
def rMin2 : List V → Hp → VK → Prop := fun xs H Q => ∃ i j, xs = [.int i, .int j] ∧ Q (.int (if j < i then j else i)) H
def dInt2 (g : Int → Int → Int) : D → D → (R → Prop) → Prop
  | .int i, .int j, k => k (.d (.int (g i j)))
  | _, _, _ => False
theorem cad_max2 : CaD c rMax2 fun ds k => ∃ x y, ds = [x, y] ∧ dInt2 (fun i j => if j > i then j else i) x y k := cad_two fun B G H σ δ r1 r2 v w x y Ψ Q F h1 h2 e1 e2 hf k => by
  cases x with
  | int i =>
    cases y with
    | int j =>
      have q1 := view_repH F h1 e1
      have q2 := view_repH F h2 e2
      unfold Rep at q1 q2
      subst q1 q2
      exact ⟨i, j, rfl, k _ _ G H hf (Ex.refl G) (Ex.refl H) F (rep_int (K := c.K) (G := G))⟩
    | _ => exact hf.elim
  | _ => exact hf.elim
theorem cad_min2 : CaD c rMin2 fun ds k => ∃ x y, ds = [x, y] ∧ dInt2 (fun i j => if j < i then j else i) x y k := cad_two fun B G H σ δ r1 r2 v w x y Ψ Q F h1 h2 e1 e2 hf k => by
  cases x with
  | int i =>
    cases y with
    | int j =>
      have q1 := view_repH F h1 e1
      have q2 := view_repH F h2 e2
      unfold Rep at q1 q2
      subst q1 q2
      exact ⟨i, j, rfl, k _ _ G H hf (Ex.refl G) (Ex.refl H) F (rep_int (K := c.K) (G := G))⟩
    | _ => exact hf.elim
  | _ => exact hf.elim
/-- int(..): of an int, a bool, a text -/
def rIntA : List V → Hp → VK → Prop := fun xs H Q => ((∃ i, xs = [.int i] ∧ Q (.int i) H) ∨ ∃ k, xs = [.bl k] ∧ Q (.int (if k then 1 else 0)) H) ∨ ∃ a n, xs = [.str a] ∧ PySem.intText? a = some n ∧ a.length ≤ 640 ∧ Q (.int n) H
theorem call_intA {X : Cx} : CallR X (.type "int") rIntA := call_int1.or call_int_str
def dIntC : D → (R → Prop) → Prop
  | .int i, k => k (.d (.int i))
  | .bl b, k => k (.d (.int (if b then 1 else 0)))
  | .str a, k => ∃ n, PySem.intText? a = some n ∧ a.length ≤ 640 ∧ k (.d (.int n))
  | _, _ => False
theorem cad_int : CaD c rIntA fun ds k => ∃ x, ds = [x] ∧ dIntC x k := cad_one fun B G H σ δ r1 v x Ψ Q F h1 e1 hf k => by
  have q := view_repH F h1 e1
  cases x with
  | int i => unfold Rep at q; subst q; exact .inl (.inl ⟨i, rfl, k _ _ G H hf (Ex.refl G) (Ex.refl H) F (rep_int (K := c.K) (G := G))⟩)
  | bl i => unfold Rep at q; subst q; exact .inl (.inr ⟨i, rfl, k _ _ G H hf (Ex.refl G) (Ex.refl H) F (rep_int (K := c.K) (G := G))⟩)
  | str a =>
    unfold Rep at q
    subst q
    obtain ⟨n, h3, h4, kk⟩ := hf
    exact .inr ⟨a, n, rfl, h3, h4, k _ _ G H kk (Ex.refl G) (Ex.refl H) F (rep_int (K := c.K) (G := G))⟩
  | _ => exact hf.elim
def rStrI : List V → Hp → VK → Prop := fun xs H Q => ∃ i, xs = [.int i] ∧ i.natAbs.log2 < 1920 ∧ Q (.str (toString i)) H
theorem cad_str : CaD c rStrI fun ds k => ∃ x, ds = [x] ∧ ∃ i, x = .int i ∧ i.natAbs.log2 < 1920 ∧ k (.d (.str (toString i))) := cad_one fun B G H σ δ r1 v x Ψ Q F h1 e1 hf k => by
  have q := view_repH F h1 e1
  obtain ⟨i, e, h2, kk⟩ := hf
  subst e
  unfold Rep at q
  subst q
  exact ⟨i, rfl, h2, k _ _ G H kk (Ex.refl G) (Ex.refl H) F (rep_str (K := c.K) (G := G))⟩
/-- all, any of a list of truths -/
def blsD : List D → Option (List Bool)
  | [] => some []
  | .bl b :: r => (blsD r).map (b :: ·)
  | _ :: _ => none
theorem bls_rep {K : PySem.W.Frag} {G : Hp} : ∀ {xs : List D} {bs : List Bool} {vs : List V}, blsD xs = some bs → Reps K G xs vs → vs = bs.map V.bl
  | [], bs, vs, e, h => by cases e; unfold Reps at h; exact h
  | x :: xs, bs, vs, e, h => by
    unfold Reps at h
    obtain ⟨v, vr, e1, h1, h2⟩ := h
    cases x with
    | bl b =>
      unfold blsD at e
      cases q : blsD xs with
      | none => rw [q] at e; cases e
      | some cs =>
        rw [q] at e
        cases e
        unfold Rep at h1
        rw [e1, h1, bls_rep q h2]
        rfl
    | _ => cases e
theorem blsD_map (bs : List Bool) : blsD (bs.map D.bl) = some bs := by
  induction bs with
  | nil => rfl
  | cons b bs ih =>
    show (blsD (bs.map D.bl)).map (b :: ·) = _
    rw [ih]
    rfl
theorem cad_all : CaD c (rAll c.K) fun ds k => ∃ x, ds = [x] ∧ ∃ xs bs, x = .lst xs ∧ blsD xs = some bs ∧ k (.d (.bl (bs.all id))) := cad_one fun B G H σ δ r1 v x Ψ Q F h1 e1 hf k => by
  obtain ⟨xs, bs, e, hb, kk⟩ := hf
  subst e
  obtain ⟨a, vs, q1, q2, q3⟩ := view_lst F h1 e1
  subst q1
  have e3 := bls_rep hb q3
  subst e3
  exact ⟨a, bs, rfl, .inl q2, k _ _ G H kk (Ex.refl G) (Ex.refl H) F (rv_bl (K := c.K))⟩
theorem cad_any : CaD c (rAny c.K) fun ds k => ∃ x, ds = [x] ∧ ∃ xs bs, x = .lst xs ∧ blsD xs = some bs ∧ k (.d (.bl (bs.any id))) := cad_one fun B G H σ δ r1 v x Ψ Q F h1 e1 hf k => by
  obtain ⟨xs, bs, e, hb, kk⟩ := hf
  subst e
  obtain ⟨a, vs, q1, q2, q3⟩ := view_lst F h1 e1
  subst q1
  have e3 := bls_rep hb q3
  subst e3
  exact ⟨a, bs, rfl, .inl q2, k _ _ G H kk (Ex.refl G) (Ex.refl H) F (rv_bl (K := c.K))⟩
/-- list(..) of a list, a tuple -/
def rListA (K : PySem.W.Frag) : List V → Hp → VK → Prop := fun xs H Q => ∃ p ys, xs = [.ref p] ∧ (SqL K H p ys ∨ SqT K H p ys) ∧ ∀ l, H l = none → Q (.ref l) (upd H l (.lst ys))
def seqD : D → Option (List D)
  | .lst xs => some xs
  | .tup xs => some xs
  | _ => none
theorem cad_list : CaD c (rListA c.K) fun ds k => ∃ x, ds = [x] ∧ ∃ xs, seqD x = some xs ∧ ∀ a, k (.own a (.lst xs)) := cad_one fun B G H σ δ r1 v x Ψ Q F h1 e1 hf k => by
  obtain ⟨xs, e, kk⟩ := hf
  cases x with
  | lst ys =>
    cases e
    obtain ⟨a, vs, q1, q2, q3⟩ := view_lst F h1 e1
    subst q1
    exact ⟨a, vs, rfl, .inl (.inl q2), fun l hl => k _ _ G _ (kk l) (Ex.refl G) (Ex.new hl) (F.ex (Ex.new hl)) (rv_newL F hl q3)⟩
  | tup ys =>
    cases e
    obtain ⟨a, vs, q1, q2, q3⟩ := view_tup F h1 e1
    subst q1
    exact ⟨a, vs, rfl, .inr q2, fun l hl => k _ _ G _ (kk l) (Ex.refl G) (Ex.new hl) (F.ex (Ex.new hl)) (rv_newL F hl q3)⟩
  | _ => cases e
/-- tuple(..) of a list, a tuple -/
def rTupA (K : PySem.W.Frag) : List V → Hp → VK → Prop := fun xs H Q => ∃ p ys, xs = [.ref p] ∧ ((SqL K H p ys ∧ ∀ l, H l = none → Q (.ref l) (upd H l (.tup ys))) ∨ (SqT K H p ys ∧ Q (.ref p) H))
theorem cad_tuple : CaD c (rTupA c.K) fun ds k => ∃ x, ds = [x] ∧ ∃ xs, seqD x = some xs ∧ k (.d (.tup xs)) := cad_one fun B G H σ δ r1 v x Ψ Q F h1 e1 hf k => by
  obtain ⟨xs, e, kk⟩ := hf
  cases x with
  | lst ys =>
    cases e
    obtain ⟨a, vs, q1, q2, q3⟩ := view_lst F h1 e1
    subst q1
    refine ⟨a, vs, rfl, .inl ⟨.inl q2, fun l hl => ?_⟩⟩
    have hG := (F.fresh hl).2.1
    exact k _ _ (upd G l (.tup vs)) _ kk (Ex.new hG) (Ex.new hl) (F.laid hl) (rep_newT hG q3)
  | tup ys =>
    cases e
    cases r1 with
    | d y =>
      have e' : y = .tup xs := Option.some.inj e1
      subst e'
      obtain ⟨a, vs, q1, q2, q3⟩ := view_tup F (r := .d (.tup xs)) (δ := δ) h1 rfl
      subst q1
      exact ⟨a, vs, rfl, .inr ⟨q2, k _ _ G H kk (Ex.refl G) (Ex.refl H) F h1⟩⟩
    | own a y => exact h1.elim
    | deep a y gs => cases e1
    | bor i a =>
      exact (view_own F e1).1.elim
  | _ => cases e
/-! isinstance -/
def tyD : D → Option String
  | .non => some "NoneType" | .bl _ => some "bool" | .int _ => some "int" | .str _ => some "str" | .lst _ => some "list" | .tup _ => some "tuple" | .dct _ => some "dict" | _ => none
theorem tyD_ok {B G H : Hp} {σ : St} {δ : List Sl} {r1 : R} {v : V} {x : D} {T : String} (F : Frame c.K B G H σ δ) (h1 : RW c.K G r1 v) (e1 : view δ r1 = some x) (h : tyD x = some T) : TyX c.K H v (.type T) := by
  cases x with
  | non => have q := view_repH F h1 e1; unfold Rep at q; subst q; cases h; exact .base .non
  | bl b => have q := view_repH F h1 e1; unfold Rep at q; subst q; cases h; exact .base (.bl b)
  | int b => have q := view_repH F h1 e1; unfold Rep at q; subst q; cases h; exact .base (.int b)
  | str b => have q := view_repH F h1 e1; unfold Rep at q; subst q; cases h; exact .base (.str b)
  | lst xs =>
    obtain ⟨a, vs, q1, q2, q3⟩ := view_lst F h1 e1
    subst q1
    cases h
    rcases q2 with q2 | ⟨o, q2⟩
    · exact .base (.lst q2)
    · exact .base (.frz q2)
  | tup xs =>
    obtain ⟨a, vs, q1, q2, q3⟩ := view_tup F h1 e1
    subst q1
    cases h
    rcases q2 with (q2 | ⟨o, q2⟩) | ⟨o, its, n, hk, hc, _⟩
    · exact .base (.tup q2)
    · exact .fTuple q2
    · exact .kTuple hk hc
  | dct xs =>
    obtain ⟨a, vs, q1, q2, q3⟩ := view_dct F h1 e1
    subst q1
    cases h
    rcases q2 with q2 | ⟨o, q2⟩
    · exact .base (.dK q2)
    · exact .fDict q2
  | _ => cases h
/-- which of the built-in types a thing is of: decided by their names -/
def isTy (a b : String) : Option Bool := kitB a b
def isiD (x : D) : D → Option Bool
  | .ty b => (tyD x).bind fun a => kitB a b
  | _ => none
def anyTy (x : D) : List D → Option Bool
  | [] => some false
  | y :: ys => match isiD x y with
    | some true => some true
    | some false => anyTy x ys
    | none => none
def rIsiA (K : PySem.W.Frag) : List V → Hp → VK → Prop := fun xs H Q => rIsi K xs H Q ∨ rIsiT K xs H Q
theorem call_isiA {X : Cx} : CallR X (.builtin "isinstance") (rIsiA X.K) := call_isi.or call_isiT
theorem cad_isi : CaD c (rIsiA c.K) fun ds k => ∃ x y, ds = [x, y] ∧ ∃ b, isiD x y = some b ∧ k (.d (.bl b)) := cad_two fun B G H σ δ r1 r2 v w x y Ψ Q F h1 h2 e1 e2 hf k => by
  obtain ⟨b, hb, kk⟩ := hf
  cases y with
  | ty n =>
    have q2 := view_repH F h2 e2
    unfold Rep at q2
    subst q2
    cases ht : tyD x with
    | none => unfold isiD at hb; rw [ht] at hb; cases hb
    | some T =>
      unfold isiD at hb
      rw [ht] at hb
      exact .inl ⟨v, .ty n, .type T, .type n, b, rfl, .ty n, tyD_ok F h1 e1 ht, kit_ty hb, k _ _ G H kk (Ex.refl G) (Ex.refl H) F (rv_bl (K := c.K))⟩
  | _ => cases hb
end
end DL

/-! DL6: what changes a list or a dict of one's own; methods of texts; displays of dicts; a walk over a list, a tuple or a text. -/
namespace DL
open PySem PySem.Spec PyProof.Rows L2
open Evl (Ex)
section
variable {X : Cx} {tg : Expr}
/-- for .. in e: e a list, a tuple or a text -/
def iAny (K : PySem.W.Frag) (te : TE) : TI := fun σ H R => te σ H fun x H1 => (∃ a, x = .ref a ∧ (∃ xs, SqL K H1 a xs) ∧ R (Itl K a) H1) ∨ (∃ a, x = .ref a ∧ (∃ xs, SqT K H1 a xs) ∧ R (Itt K a) H1) ∨ ∃ z, x = .str z ∧ R (Its z) H1
theorem pi_any {l : Expr} {tl : TE} (hl : PE X l tl) : PI X tg l (iAny X.K tl) := by
  refine ⟨fun pins s σ H R I h => ?_⟩
  let PX : PI X tg l (iAny X.K tl) → True := fun _ => trivial
  refine thn (hl.run pins s σ H _ I h) fun v s1 ⟨x, H1, I1, r1, q1⟩ => ?_
  rcases q1 with ⟨a, e, ⟨xs, hq⟩, q⟩ | ⟨a, e, ⟨xs, hq⟩, q⟩ | ⟨z, e, q⟩
  · subst e
    cases r1
    obtain ⟨its, rv, p, hz⟩ := I1.list hq
    refine wpAny_pyIter_list p.isList ?_
    refine ⟨s1.heap.objs.size, [s1.heap.objs.size], _, _, H1, rfl, I1.kept (t' := s1.toks) fun b o e => Heap.get?_push_of_some _ e, turn_list a _, ⟨_, Heap.get?_push_size _ rfl, rfl, rfl⟩, fun b hb => ?_, q⟩
    have e : b = s1.heap.objs.size := by simpa using hb
    subst e
    exact I1.fpOk (Nat.le_refl _) (I1.hok.fresh (Nat.le_refl _))
  · subst e
    cases r1
    obtain ⟨its, rv, p, hz⟩ := I1.tuple hq
    refine wpAny_pyIter_tuple (show s1.heap.IsTuple a its.toArray from p) ?_
    refine ⟨s1.heap.objs.size, [s1.heap.objs.size], _, _, H1, rfl, I1.kept (t' := s1.toks) fun b o e => Heap.get?_push_of_some _ e, turn_tuple a _, ⟨_, Heap.get?_push_size _ rfl, rfl, rfl⟩, fun b hb => ?_, q⟩
    have e : b = s1.heap.objs.size := by simpa using hb
    subst e
    exact I1.fpOk (Nat.le_refl _) (I1.hok.fresh (Nat.le_refl _))
  · subst e
    obtain ⟨t, rfl⟩ := r1
    cases ha : z.cps.all (· < 128)
    · exact wpAny_pyIter_wide ha (pi_one (tk := s1.toks) I1 _ (turn_str _ z t "str_iterator" (.inr rfl)) ⟨_, Heap.get?_push_size _ rfl, rfl, rfl⟩ q)
    · exact wpAny_pyIter_ascii ha (pi_one (tk := s1.toks) I1 _ (turn_str _ z t "str_ascii_iterator" (.inl rfl)) ⟨_, Heap.get?_push_size _ rfl, rfl, rfl⟩ q)
end
section
variable {c : Cd} {p : Bool} {δ : List Sl} {te ta tb : TE} {E : En} {t u : TS} {tt : TT} {g : TG}
/-- the things that a list, a tuple, a text hands on -/
def itemsD : D → Option (List D)
  | .lst xs => some xs
  | .tup xs => some xs
  | .str z => some (signsD z)
  | _ => none
theorem wi_any {Φ : List D → List Sl → Prop} (h : WE c p te δ fun r δ1 => ∃ y ds, frz r = .d y ∧ itemsD y = some ds ∧ Φ ds δ1) : WI c p (iAny c.K te) δ Φ := by
  intro B G H σ R F x k
  refine h B G H σ _ F x fun r δ1 v G1 H1 w e1 F1 rv p1 => ?_
  obtain ⟨y, ds, e, hi, w⟩ := w
  obtain ⟨G1', e1', F1', rw1⟩ := rv.weak F1
  rw [e] at rw1
  cases y with
  | lst ys =>
    cases hi
    have rw2 : Rep c.K G1' (.lst ds) v := rw1
    unfold Rep at rw2
    obtain ⟨a, xs, e2, h1, h2⟩ := rw2
    refine .inl ⟨a, e2, ⟨xs, .inl (Rd.of (F1'.exG _ _ h1))⟩, k ds δ1 _ G1' H1 w (e1.trans e1') F1' p1 ⟨_, YAt xs, by rw [← reps_length h2]; exact walk_list, fun H2 e3 => sql (Rd.of (e3 _ _ h1)), fun i H2 x H3 hi (y : YAt xs i H2 x H3) => .inl ⟨y.1, ?_⟩⟩⟩
    obtain ⟨d, hd, hr⟩ := reps_getV h2 y.2
    exact ⟨d, hd, hr⟩
  | tup ys =>
    cases hi
    have rw2 : Rep c.K G1' (.tup ds) v := rw1
    unfold Rep at rw2
    obtain ⟨a, xs, e2, h1, h2⟩ := rw2
    refine .inr (.inl ⟨a, e2, ⟨xs, SqT.of (F1'.exG _ _ h1)⟩, k ds δ1 _ G1' H1 w (e1.trans e1') F1' p1 ⟨_, YAt xs, by rw [← reps_length h2]; exact walk_tup, fun H2 e3 => SqT.of (e3 _ _ h1), fun i H2 x H3 hi (y : YAt xs i H2 x H3) => .inl ⟨y.1, ?_⟩⟩⟩)
    obtain ⟨d, hd, hr⟩ := reps_getV h2 y.2
    exact ⟨d, hd, hr⟩
  | str z =>
    cases hi
    have e2 : v = .str z := by have h : Rep c.K G1' (.str z) v := rw1; unfold Rep at h; exact h
    have el : (signsD z).length = z.cps.size := by unfold signsD; simp
    refine .inr (.inr ⟨z, e2, k _ δ1 _ G1' H1 w (e1.trans e1') F1' p1 ⟨_, fun i H2 y H3 => H3 = H2 ∧ ∃ c, z.cps[i]? = some c ∧ y = .str ⟨#[c]⟩, by rw [el]; exact walk_str, fun _ _ => trivial, fun i H2 y H3 hi (yy : H3 = H2 ∧ ∃ c, z.cps[i]? = some c ∧ y = .str ⟨#[c]⟩) => .inl ⟨yy.1, ?_⟩⟩⟩)
    obtain ⟨_, ch, hc, ey⟩ := yy
    refine ⟨.str ⟨#[ch]⟩, ?_, ?_⟩
    · unfold signsD
      rw [List.getElem?_map, Array.getElem?_toList, hc]
      rfl
    · rw [ey]; exact rep_str
  | _ => cases hi
/-! ### an object of one's own is changed -/
theorem frame_mut {K : PySem.W.Frag} {B G H : Hp} {σ : St} {δ : List Sl} {i : Nat} {a : Addr} {x y : D} {o : HO} (F : Frame K B G H σ δ) (e : δ[i]? = some (.own a x)) (h : OwnR K G (upd H a o) a y) : Frame K B G (upd H a o) σ (δ.set i (.own a y)) := by
  obtain ⟨hB, hG⟩ := F.own a (owned_get e)
  have hn : a ∉ owned (δ.set i .no) := not_owned_set F.nd e (List.mem_singleton.mpr rfl) rfl
  have F0 := frame_forget i F
  have F1 : Frame K B G (upd H a o) σ (δ.set i .no) := by
    refine ⟨fun b u q => ?_, fun b u q => ?_, F0.dis, F0.sl.ex (Ex.refl G) (fun b hb => upd_ne fun z => hn (by rw [← z]; exact hb)), F0.own, F0.nd⟩
    · by_cases z : b = a
      · subst z; rw [hB] at q; cases q
      · rw [upd_ne z]; exact F0.exB b u q
    · by_cases z : b = a
      · subst z; rw [hG] at q; cases q
      · rw [upd_ne z]; exact F0.exG b u q
  obtain ⟨ov, h1, h2, _⟩ := F.get e
  have z := F1.sl.setS (s := .own a y) (ov := none) i fun ov' e' => by
    rw [h1] at e'
    cases e'
    exact ⟨h2, h⟩
  rw [List.set_set] at z
  refine ⟨F1.exB, F1.exG, F1.dis, z, fun b hb => ?_, by rw [owned_set_same e]; exact F.nd⟩
  rw [owned_set_same e] at hb
  exact F.own b hb
theorem own_lst {K : PySem.W.Frag} {B G H : Hp} {σ : St} {δ : List Sl} {i : Nat} {a : Addr} {ds : List D} (F : Frame K B G H σ δ) (e : δ[i]? = some (.own a (.lst ds))) : ∃ xs, H a = some (.lst xs) ∧ Reps K G ds xs := by
  obtain ⟨ov, _, _, h⟩ := F.get e
  exact h
/-- a method that changes a list: by its items and the arguments -/
abbrev Dmu := List D → List D → (List D → D → Prop) → Prop
def MuL (r : V → List V → Hp → VK → Prop) (f : Dmu) : Prop := ∀ (K : PySem.W.Frag) (G H : Hp) (a : Addr) (xs : List V) (ds es : List D) (vs : List V) (Ψ : List D → D → Prop) (Q : VK), H a = some (.lst xs) → Ex G H → Reps K G ds xs → Reps K G es vs → f ds es Ψ →
  (∀ ds' xs' z v, Ψ ds' z → Reps K G ds' xs' → Rep K G z v → Q v (upd H a (.lst xs'))) → r (.ref a) vs H Q
theorem we_mu {r : V → List V → Hp → VK → Prop} {f : Dmu} {tr : TA} {Φ : R → List Sl → Prop} (hm : MuL r f) (h : WE c false te δ fun r1 δ1 => ∃ i a, r1 = .bor i a ∧ (∃ ds, δ1[i]? = some (.own a (.lst ds))) ∧ WA c false tr δ1 fun rs δ2 => ∃ ds es, datas rs = some es ∧ δ2[i]? = some (.own a (.lst ds)) ∧
    f ds es fun ds' z => Φ (.d z) (δ2.set i (.own a (.lst ds')))) : WE c false (tBM c.K "list" r te tr) δ Φ := by
  intro B G H σ Q F x k
  refine h B G H σ _ F x fun r1 δ1 v1 G1 H1 w1 e1 F1 rv1 p1 => ?_
  obtain ⟨i, a, er, ⟨ds0, hd0⟩, w1⟩ := w1
  subst er
  obtain ⟨ev, _⟩ := rv1
  subst ev
  obtain ⟨xs0, hx0, _⟩ := own_lst F1 hd0
  refine ⟨.inl ⟨rfl, xs0, SqL.of hx0⟩, ?_⟩
  refine w1 B G1 H1 σ _ F1 (c.mono _ _ _ e1 x) fun rs δ2 vs G2 H2 w2 e2 F2 rv2 p2 => ?_
  obtain ⟨ds, es, he, hd, hf⟩ := w2
  obtain ⟨xs, hx, hr⟩ := own_lst F2 hd
  refine hm c.K G2 H2 a xs ds es vs _ Q hx F2.exG hr (datas_reps he rv2) hf fun ds' xs' z v q hr' hz => ?_
  exact k _ _ v G2 _ q (e1.trans e2) (frame_mut F2 hd ⟨xs', upd_same, hr'⟩) hz fun hp => by cases hp
theorem we_mu0 {r : V → List V → Hp → VK → Prop} {f : Dmu} {Φ : R → List Sl → Prop} (hm : MuL r f) (h : WE c false te δ fun r1 δ1 => ∃ i a ds, r1 = .bor i a ∧ δ1[i]? = some (.own a (.lst ds)) ∧
    f ds [] fun ds' z => Φ (.d z) (δ1.set i (.own a (.lst ds')))) : WE c false (tBM0 c.K "list" r te) δ Φ := by
  intro B G H σ Q F x k
  refine h B G H σ _ F x fun r1 δ1 v1 G1 H1 w1 e1 F1 rv1 p1 => ?_
  obtain ⟨i, a, ds, er, hd, hf⟩ := w1
  subst er
  obtain ⟨ev, _⟩ := rv1
  subst ev
  obtain ⟨xs, hx, hr⟩ := own_lst F1 hd
  refine ⟨.inl ⟨rfl, xs, SqL.of hx⟩, ?_⟩
  refine hm c.K G1 H1 a xs ds [] [] _ Q hx F1.exG hr reps_nil hf fun ds' xs' z v q hr' hz => ?_
  exact k _ _ v G1 _ q e1 (frame_mut F1 hd ⟨xs', upd_same, hr'⟩) hz fun hp => by cases hp
theorem reps_one' {K : PySem.W.Frag} {G : Hp} {x : D} {vs : List V} (h : Reps K G [x] vs) : ∃ v, vs = [v] ∧ Rep K G x v := by
  unfold Reps at h
  obtain ⟨v, vr, e, h1, h2⟩ := h
  unfold Reps at h2
  subst h2
  exact ⟨v, e, h1⟩
theorem mu_append : MuL rAppend fun ds es k => ∃ x, es = [x] ∧ ds.length < 100000 ∧ k (ds ++ [x]) .non := fun K G H a xs ds es vs Ψ Q hx eG hr he hf k => by
  obtain ⟨x, e, hl, q⟩ := hf
  subst e
  obtain ⟨v, e2, h2⟩ := reps_one' he
  subst e2
  exact ⟨a, xs, v, rfl, rfl, hx, Evl.sz_lt (by rw [reps_length hr]; exact hl), k _ _ _ _ q (reps_append hr (reps_one h2)) rep_non⟩
theorem reps_dropLast {K : PySem.W.Frag} {G : Hp} {ds : List D} {xs : List V} (h : Reps K G ds xs) : Reps K G ds.dropLast xs.dropLast := by
  rw [List.dropLast_eq_take, List.dropLast_eq_take, reps_length h]
  exact reps_take _ h
theorem mu_pop : MuL rPop fun ds es k => es = [] ∧ ∃ x, ds[ds.length - 1]? = some x ∧ k ds.dropLast x := fun K G H a xs ds es vs Ψ Q hx eG hr he hf k => by
  obtain ⟨e, x, hl, q⟩ := hf
  subst e
  unfold Reps at he
  subst he
  obtain ⟨v, h1, h2⟩ := reps_get hr hl
  exact ⟨a, xs, v, rfl, rfl, hx, by rw [reps_length hr]; exact h1, k _ _ _ _ q (reps_dropLast hr) h2⟩
theorem mu_clear : MuL rClear fun ds es k => es = [] ∧ k [] .non := fun K G H a xs ds es vs Ψ Q hx eG hr he hf k => by
  obtain ⟨e, q⟩ := hf
  subst e
  unfold Reps at he
  subst he
  exact ⟨a, xs, rfl, rfl, hx, k _ _ _ _ q reps_nil rep_non⟩
theorem mu_reverse : MuL rReverse fun ds es k => es = [] ∧ k ds.reverse .non := fun K G H a xs ds es vs Ψ Q hx eG hr he hf k => by
  obtain ⟨e, q⟩ := hf
  subst e
  unfold Reps at he
  subst he
  exact ⟨a, xs, rfl, rfl, hx, k _ _ _ _ q (reps_rev hr) rep_non⟩
/-- xs[i] = v -/
theorem wg_setL {r : R} {Φ : List Sl → Prop} (h : ∃ x, frz r = .d x ∧ WE c false ta δ fun r1 δ1 => ∃ i a, r1 = .bor i a ∧ WE c false tb δ1 fun r2 δ2 => ∃ n ds j, r2 = .d (.int n) ∧ δ2[i]? = some (.own a (.lst ds)) ∧ ixN ds.length n = some j ∧ Φ (δ2.set i (.own a (.lst (ds.set j x))))) :
    WG c (gSub ta tb rSetL) r δ Φ := by
  intro B G H σ v Q F x k rv
  obtain ⟨y, hy, h⟩ := h
  obtain ⟨G0, e0, F0, rw0⟩ := k.weak F
  rw [hy] at rw0
  refine h B G0 H σ _ F0 (c.mono _ _ _ e0 x) fun r1 δ1 v1 G1 H1 w1 e1 F1 rv1 p1 => ?_
  obtain ⟨i, a, er, w1⟩ := w1
  subst er
  obtain ⟨ev, _⟩ := rv1
  subst ev
  refine w1 B G1 H1 σ _ F1 (c.mono _ _ _ (e0.trans e1) x) fun r2 δ2 v2 G2 H2 w2 e2 F2 rv2 p2 => ?_
  obtain ⟨n, ds, j, er, hd, hj, w2⟩ := w2
  subst er
  have ev2 : v2 = .int n := by have h : Rep c.K G2 (.int n) v2 := rv2; unfold Rep at h; exact h
  obtain ⟨xs, hx, hr⟩ := own_lst F2 hd
  have rw2 : Rep c.K G2 y v := (RW.mono (e1.trans e2) rw0 : RW c.K G2 (.d y) v)
  exact ⟨a, xs, n, j, rfl, ev2, hx, by rw [reps_length hr]; exact hj, rv _ σ G2 _ w2 (e0.trans (e1.trans e2)) (frame_mut F2 hd ⟨_, upd_same, reps_set j hr rw2⟩)⟩
/-! ### methods that change nothing -/
def tyM (T : String) : D → Prop
  | .str _ => T = "str"
  | .lst _ => T = "list"
  | _ => False
theorem tyM_ok {B G H : Hp} {σ : St} {δ : List Sl} {r1 : R} {v : V} {x : D} {T : String} (F : Frame c.K B G H σ δ) (h1 : RW c.K G r1 v) (e1 : view δ r1 = some x) (h : tyM T x) : tyV c.K T v H := by
  cases x with
  | str z => have q := view_repH F h1 e1; unfold Rep at q; subst q; exact h
  | lst xs =>
    obtain ⟨a, vs, q1, q2, q3⟩ := view_lst F h1 e1
    subst q1
    exact .inl ⟨h, vs, .inl q2⟩
  | _ => exact h.elim
abbrev Dme := D → List D → (R → Prop) → Prop
def MeD (c : Cd) (r : V → List V → Hp → VK → Prop) (f : Dme) : Prop := ∀ (B G H : Hp) (σ : St) (δ : List Sl) (r1 : R) (rs : List R) (v : V) (vs : List V) (x : D) (ds : List D) (Ψ : R → Prop) (Q : VK), Frame c.K B G H σ δ → RW c.K G r1 v → RVs c.K G rs vs → view δ r1 = some x → views δ rs = some ds → f x ds Ψ →
  (∀ r v G' H', Ψ r → Ex G G' → Ex H H' → Frame c.K B G' H' σ δ → RV c.K B G' H' δ r v → Q v H') → r v vs H Q
theorem we_bm {T : String} {r : V → List V → Hp → VK → Prop} {f : Dme} {tr : TA} {Φ : R → List Sl → Prop} (hm : MeD c r f) (h : WE c p te δ fun r1 δ1 => (∃ x, view δ1 (frz r1) = some x ∧ tyM T x) ∧ WA c p tr δ1 fun rs δ2 => ∃ x ds, view δ2 (frz r1) = some x ∧ views δ2 rs = some ds ∧ f x ds fun r => Φ r δ2) : WE c p (tBM c.K T r te tr) δ Φ := by
  intro B G H σ Q F x k
  refine h B G H σ _ F x fun r1 δ1 v1 G1 H1 w1 e1 F1 rv1 p1 => ?_
  obtain ⟨G1', e1', F1', rw1⟩ := rv1.weak F1
  obtain ⟨⟨y, hy, ht⟩, w1⟩ := w1
  refine ⟨tyM_ok F1' rw1 hy ht, ?_⟩
  refine w1 B G1' H1 σ _ F1' (c.mono _ _ _ (e1.trans e1') x) fun rs δ2 vs G2 H2 w2 e2 F2 rv2 p2 => ?_
  obtain ⟨z, ds, hz, hds, hf⟩ := w2
  exact hm B G2 H2 σ δ2 _ rs v1 vs z ds _ Q F2 (rw1.mono e2) rv2 hz hds hf fun r v G' H' q e3 e4 F3 rv3 => k r δ2 v G' H' q ((e1.trans e1').trans (e2.trans e3)) F3 rv3 fun hp => ⟨(p2 hp).1.trans (p1 hp).1, ((p1 hp).2.trans (p2 hp).2).trans e4⟩
theorem we_bm0 {T : String} {r : V → List V → Hp → VK → Prop} {f : Dme} {Φ : R → List Sl → Prop} (hm : MeD c r f) (h : WE c p te δ fun r1 δ1 => ∃ x, view δ1 (frz r1) = some x ∧ tyM T x ∧ f x [] fun r => Φ r δ1) : WE c p (tBM0 c.K T r te) δ Φ := by
  intro B G H σ Q F x k
  refine h B G H σ _ F x fun r1 δ1 v1 G1 H1 w1 e1 F1 rv1 p1 => ?_
  obtain ⟨G1', e1', F1', rw1⟩ := rv1.weak F1
  obtain ⟨y, hy, ht, hf⟩ := w1
  refine ⟨tyM_ok F1' rw1 hy ht, ?_⟩
  exact hm B G1' H1 σ δ1 _ [] v1 [] y [] _ Q F1' rw1 rfl hy rfl hf fun r v G' H' q e3 e4 F3 rv3 => k r δ1 v G' H' q ((e1.trans e1').trans e3) F3 rv3 fun hp => ⟨(p1 hp).1, (p1 hp).2.trans e4⟩
/-- texts among data -/
def strsD : List D → Option (List Str)
  | [] => some []
  | .str b :: r => (strsD r).map (b :: ·)
  | _ :: _ => none
theorem strs_rep {K : PySem.W.Frag} {G : Hp} : ∀ {xs : List D} {bs : List Str} {vs : List V}, strsD xs = some bs → Reps K G xs vs → vs = bs.map V.str
  | [], bs, vs, e, h => by cases e; unfold Reps at h; exact h
  | x :: xs, bs, vs, e, h => by
    unfold Reps at h
    obtain ⟨v, vr, e1, h1, h2⟩ := h
    cases x with
    | str b =>
      unfold strsD at e
      cases q : strsD xs with
      | none => rw [q] at e; cases e
      | some cs =>
        rw [q] at e
        cases e
        unfold Rep at h1
        rw [e1, h1, strs_rep q h2]
        rfl
    | _ => cases e
theorem strsD_map (bs : List Str) : strsD (bs.map D.str) = some bs := by
  induction bs with
  | nil => rfl
  | cons b bs ih =>
    show (strsD (bs.map D.str)).map (b :: ·) = _
    rw [ih]
    rfl
def rJoinA (K : PySem.W.Frag) : V → List V → Hp → VK → Prop := fun x xs H Q => ∃ a p, ∃ ys : List Str, x = .str a ∧ xs = [.ref p] ∧ (SqL K H p (ys.map V.str) ∨ SqT K H p (ys.map V.str)) ∧ (ys.map (·.length)).sum + ys.length * a.length ≤ 16777216 ∧ Q (.str (Txt.join a ys)) H
theorem med_join : MeD c (rJoinA c.K) fun x ds k => ∃ a xs ys, x = .str a ∧ ds = [.lst xs] ∧ strsD xs = some ys ∧ (ys.map (·.length)).sum + ys.length * a.length ≤ 16777216 ∧ k (.d (.str (Str.join a ys))) := by
  intro B G H σ δ r1 rs v vs x ds Ψ Q F h1 hr e1 e2 hf k
  obtain ⟨a, xs, ys, ex, ed, hs, hl, q⟩ := hf
  subst ex ed
  have q1 := view_repH F h1 e1
  unfold Rep at q1
  cases rs with
  | nil => cases views_nil e2
  | cons r2 rs =>
    obtain ⟨x', es, e3, e4, e5⟩ := views_cons e2
    cases e3
    obtain ⟨w, wr, e6, h3, h4⟩ := hr
    cases rs with
    | cons r3 rs => obtain ⟨_, _, e7, _⟩ := views_cons e5; cases e7
    | nil =>
      have e8 : wr = [] := h4
      subst e8 e6
      obtain ⟨b, us, q2, q3, q4⟩ := view_lst F h3 e4
      have e9 := strs_rep hs q4
      subst e9 q2
      refine ⟨a, b, ys, q1, rfl, .inl (.inl q3), hl, ?_⟩
      rw [show Txt.join a ys = Str.join a ys from TL.join_eq a ys]
      exact k _ _ G H q (Ex.refl G) (Ex.refl H) F (rep_str (K := c.K) (G := G))
theorem views_one {r2 : R} {rs : List R} {K : PySem.W.Frag} {G : Hp} {vs : List V} {x : D} (e : views δ rs = some [x]) (h : RVs K G rs vs) : ∃ r w, rs = [r] ∧ vs = [w] ∧ view δ r = some x ∧ RW K G r w := by
  cases rs with
  | nil => cases views_nil e
  | cons r2 rs =>
    obtain ⟨x', es, e3, e4, e5⟩ := views_cons e
    cases e3
    obtain ⟨w, wr, e6, h3, h4⟩ := h
    cases rs with
    | cons r3 rs => obtain ⟨_, _, e7, _⟩ := views_cons e5; cases e7
    | nil =>
      have e8 : wr = [] := h4
      subst e8
      exact ⟨r2, w, rfl, e6, e4, h3⟩
def rFindA : V → List V → Hp → VK → Prop := fun x xs H Q => ∃ a b, x = .str a ∧ xs = [.str b] ∧ Q (.int (Txt.find a b)) H
theorem med_find : MeD c rFindA fun x ds k => ∃ a b, x = .str a ∧ ds = [.str b] ∧ k (.d (.int (Txt.find a b))) := by
  intro B G H σ δ r1 rs v vs x ds Ψ Q F h1 hr e1 e2 hf k
  obtain ⟨a, b, ex, ed, q⟩ := hf
  subst ex ed
  have q1 := view_repH F h1 e1
  unfold Rep at q1
  obtain ⟨r, w, er, ev, e4, h3⟩ := views_one (r2 := r1) e2 hr
  subst er ev
  have q2 := view_repH F h3 e4
  unfold Rep at q2
  subst q2
  exact ⟨a, b, q1, rfl, k _ _ G H q (Ex.refl G) (Ex.refl H) F (rep_int (K := c.K) (G := G))⟩
/-! ### dicts -/
theorem we_dnew {Φ : R → List Sl → Prop} (h : ∀ a, Φ (.own a (.dct [])) δ) : WE c p tDNewK δ Φ := by
  intro B G H σ Q F x k a ha
  obtain ⟨h1, h2, h3⟩ := F.fresh ha
  exact k _ δ _ G _ (h a) (Ex.refl G) (F.ex (Ex.new ha)) ⟨rfl, ⟨[], upd_same, by unfold RepK; rfl⟩, h1, h2, h3⟩ fun _ => ⟨rfl, Ex.new ha⟩
def keyD : Key → D
  | .inl i => .int i
  | .inr x => .str x
def dKey : D → Option Key
  | .int i => some (.inl i)
  | .str x => some (.inr x)
  | _ => none
theorem dKey_rep {K : PySem.W.Frag} {G : Hp} {x : D} {v : V} {k : Key} (e : dKey x = some k) (h : Rep K G x v) : v = kV k := by
  cases x <;> first | (cases e; done) | (cases e; unfold Rep at h; exact h)
def putD (kvs : List (Key × D)) (k : Key) (v : D) : List (Key × D) :=
  if (kvs.any fun kv => decide (kv.1 = k)) = true then kvs.map (fun kv => if kv.1 = k then (kv.1, v) else kv) else kvs ++ [(k, v)]
def getD (kvs : List (Key × D)) (k : Key) : Option D := (kvs.find? fun kv => decide (kv.1 = k)).map (·.2)
def dropD (kvs : List (Key × D)) (k : Key) : List (Key × D) := kvs.filter fun kv => decide (kv.1 ≠ k)
theorem repK_any {K : PySem.W.Frag} {G : Hp} (k : Key) : ∀ {ds : List (Key × D)} {vs : List (Key × V)}, RepK K G ds vs → (ds.any fun kv => decide (kv.1 = k)) = (vs.any fun kv => decide (kv.1 = k))
  | [], vs, h => by unfold RepK at h; subst h; rfl
  | (k', d) :: ds, vs, h => by
    unfold RepK at h
    obtain ⟨v, vr, e, h1, h2⟩ := h
    subst e
    rw [List.any_cons, List.any_cons, repK_any k h2]
theorem repK_map {K : PySem.W.Frag} {G : Hp} {k : Key} {x : D} {w : V} (hx : Rep K G x w) : ∀ {ds : List (Key × D)} {vs : List (Key × V)}, RepK K G ds vs →
    RepK K G (ds.map (fun kv => if kv.1 = k then (kv.1, x) else kv)) (vs.map (fun kv => if kv.1 = k then (kv.1, w) else kv))
  | [], vs, h => by unfold RepK at h; subst h; unfold RepK; rfl
  | (k', d) :: ds, vs, h => by
    unfold RepK at h
    obtain ⟨v, vr, e, h1, h2⟩ := h
    subst e
    have ih := repK_map (k := k) hx h2
    rw [List.map_cons, List.map_cons]
    by_cases q : k' = k
    · simp only [if_pos q]
      unfold RepK
      exact ⟨w, _, rfl, hx, ih⟩
    · simp only [if_neg q]
      unfold RepK
      exact ⟨v, _, rfl, h1, ih⟩
theorem repK_app {K : PySem.W.Frag} {G : Hp} {k : Key} {x : D} {w : V} (hx : Rep K G x w) : ∀ {ds : List (Key × D)} {vs : List (Key × V)}, RepK K G ds vs → RepK K G (ds ++ [(k, x)]) (vs ++ [(k, w)])
  | [], vs, h => by
    unfold RepK at h
    subst h
    show RepK K G [(k, x)] [(k, w)]
    unfold RepK
    exact ⟨w, [], rfl, hx, by unfold RepK; rfl⟩
  | (k', d) :: ds, vs, h => by
    unfold RepK at h
    obtain ⟨v, vr, e, h1, h2⟩ := h
    subst e
    show RepK K G ((k', d) :: (ds ++ [(k, x)])) ((k', v) :: (vr ++ [(k, w)]))
    unfold RepK
    exact ⟨v, _, rfl, h1, repK_app hx h2⟩
theorem repK_put {K : PySem.W.Frag} {G : Hp} {k : Key} {x : D} {w : V} {ds : List (Key × D)} {vs : List (Key × V)} (h : RepK K G ds vs) (hx : Rep K G x w) : RepK K G (putD ds k x) (putK vs k w) := by
  unfold putD putK
  rw [repK_any k h]
  split
  · exact repK_map hx h
  · exact repK_app hx h
theorem repK_val {K : PySem.W.Frag} {G : Hp} {k : Key} : ∀ {ds : List (Key × D)} {vs : List (Key × V)}, RepK K G ds vs → (getD ds k = none ∧ valV vs k = none) ∨ ∃ x v, getD ds k = some x ∧ valV vs k = some v ∧ Rep K G x v
  | [], vs, h => by unfold RepK at h; subst h; exact .inl ⟨rfl, rfl⟩
  | (k', d) :: ds, vs, h => by
    unfold RepK at h
    obtain ⟨v, vr, e, h1, h2⟩ := h
    subst e
    by_cases q : k' = k
    · refine .inr ⟨d, v, by simp [getD, q], by simp [valV, q], h1⟩
    · have ih := repK_val (k := k) h2
      have e1 : getD ((k', d) :: ds) k = getD ds k := by simp [getD, q]
      have e2 : valV ((k', v) :: vr) k = valV vr k := by simp [valV, q]
      rw [e1, e2]
      exact ih
theorem repK_len {K : PySem.W.Frag} {G : Hp} : ∀ {ds : List (Key × D)} {vs : List (Key × V)}, RepK K G ds vs → vs.length = ds.length
  | [], vs, h => by unfold RepK at h; subst h; rfl
  | (k', d) :: ds, vs, h => by
    unfold RepK at h
    obtain ⟨v, vr, e, h1, h2⟩ := h
    subst e
    simp [repK_len h2]
def mergeD (kvs more : List (Key × D)) : List (Key × D) := more.foldl (fun acc kv => putD acc kv.1 kv.2) kvs
theorem repK_merge {K : PySem.W.Frag} {G : Hp} : ∀ {more : List (Key × D)} {mv : List (Key × V)} {ds : List (Key × D)} {vs : List (Key × V)}, RepK K G more mv → RepK K G ds vs → RepK K G (mergeD ds more) (mergeK vs mv)
  | [], mv, ds, vs, h, h' => by unfold RepK at h; subst h; exact h'
  | (k', d) :: more, mv, ds, vs, h, h' => by
    unfold RepK at h
    obtain ⟨v, vr, e, h1, h2⟩ := h
    subst e
    have ih := repK_merge h2 (repK_put (k := k') h' h1)
    exact ih
/-- pairs from the left -/
def WP (c : Cd) (p : Bool) (trs : List (TE × TE)) (δ : List Sl) (Φ : List (D × D) → List Sl → Prop) : Prop :=
  ∀ (B G H : Hp) (σ : St) (Q : List (V × V) → Hp → Prop), Frame c.K B G H σ δ → c.xr B G →
    (∀ ps δ' vs G' H', Φ ps δ' → Ex G G' → Frame c.K B G' H' σ δ' → Reps c.K G' (ps.map (·.1)) (vs.map (·.1)) → Reps c.K G' (ps.map (·.2)) (vs.map (·.2)) → (p = true → δ' = δ ∧ Ex H H') → Q vs H') → tPairs trs σ H Q
theorem wp_nil {Ψ : List (D × D) → List Sl → Prop} (h : Ψ [] δ) : WP c p [] δ Ψ := fun B G H σ Q F x k => k [] δ [] G H h (Ex.refl G) F reps_nil reps_nil fun _ => ⟨rfl, Ex.refl H⟩
theorem wp_cons {trs : List (TE × TE)} {Ψ : List (D × D) → List Sl → Prop} (h : WE c p ta δ fun r1 δ1 => ∃ x, frz r1 = .d x ∧ WE c p tb δ1 fun r2 δ2 => ∃ y, frz r2 = .d y ∧ WP c p trs δ2 fun ps δ3 => Ψ ((x, y) :: ps) δ3) : WP c p ((ta, tb) :: trs) δ Ψ := by
  intro B G H σ Q F x k
  refine h B G H σ _ F x fun r1 δ1 v1 G1 H1 w1 e1 F1 rv1 p1 => ?_
  obtain ⟨G1', e1', F1', rw1⟩ := rv1.weak F1
  obtain ⟨a, ea, w1⟩ := w1
  rw [ea] at rw1
  refine w1 B G1' H1 σ _ F1' (c.mono _ _ _ (e1.trans e1') x) fun r2 δ2 v2 G2 H2 w2 e2 F2 rv2 p2 => ?_
  obtain ⟨G2', e2', F2', rw2⟩ := rv2.weak F2
  obtain ⟨b, eb, w2⟩ := w2
  rw [eb] at rw2
  have eG := (e1.trans e1').trans (e2.trans e2')
  refine w2 B G2' H2 σ _ F2' (c.mono _ _ _ eG x) fun ps δ3 vs G3 H3 w3 e3 F3 rk rv p3 => ?_
  have ra : Rep c.K G3 a v1 := (RW.mono ((e2.trans e2').trans e3) rw1 : RW c.K G3 (.d a) v1)
  have rb : Rep c.K G3 b v2 := (RW.mono e3 rw2 : RW c.K G3 (.d b) v2)
  exact k _ δ3 _ G3 H3 w3 (eG.trans e3) F3 (reps_cons ra rk) (reps_cons rb rv) fun hp => ⟨((p3 hp).1.trans (p2 hp).1).trans (p1 hp).1, ((p1 hp).2.trans (p2 hp).2).trans (p3 hp).2⟩
theorem pairs_rep {K : PySem.W.Frag} {G : Hp} : ∀ {kds : List (Key × D)} {vs : List (V × V)}, Reps K G (kds.map fun kv => keyD kv.1) (vs.map (·.1)) → Reps K G (kds.map (·.2)) (vs.map (·.2)) → ∃ kvs : List (Key × V), vs = kvs.map (fun kv => (kV kv.1, kv.2)) ∧ RepK K G kds kvs
  | [], vs, h, h' => by
    unfold Reps at h
    have e : vs = [] := by simpa using h
    subst e
    exact ⟨[], rfl, by unfold RepK; rfl⟩
  | (k, d) :: kds, vs, h, h' => by
    cases vs with
    | nil => rw [List.map_cons, List.map_nil] at h; unfold Reps at h; obtain ⟨_, _, e, _⟩ := h; cases e
    | cons w vs =>
      rw [List.map_cons, List.map_cons] at h h'
      unfold Reps at h h'
      obtain ⟨v1, r1, e1, h1, h2⟩ := h
      obtain ⟨v2, r2, e2, h3, h4⟩ := h'
      cases e1
      cases e2
      obtain ⟨kvs, e3, h5⟩ := pairs_rep h2 h4
      have ek : w.1 = kV k := by
        cases k <;> (unfold keyD Rep at h1; exact h1)
      refine ⟨(k, w.2) :: kvs, ?_, ?_⟩
      · rw [List.map_cons, ← e3, ← ek]
      · unfold RepK
        exact ⟨w.2, kvs, rfl, h3, h5⟩
theorem we_disp {trs : List (TE × TE)} {Φ : R → List Sl → Prop} (h : WP (c0 c.K) p trs δ fun ps δ1 => ∃ kds : List (Key × D), ps = kds.map (fun kv => (keyD kv.1, kv.2)) ∧ kds.length ≤ 15 ∧ ∀ a, Φ (.own a (.dct (mergeD [] kds))) δ1) : WE c p (tDisp trs) δ Φ := by
  intro B G H σ Q F x k a ha
  obtain ⟨hB, hG, hO⟩ := F.fresh ha
  have Fb : Frame c.K (upd B a (.dK [])) G (upd H a (.dK [])) σ δ := by
    have F1 := F.ex (Ex.new (o := .dK []) ha)
    refine ⟨fun b u q => ?_, F1.exG, fun b => ?_, F1.sl, fun b hb => ⟨?_, (F1.own b hb).2⟩, F1.nd⟩
    · by_cases z : b = a
      · subst z; rw [upd_same] at q ⊢; exact q
      · rw [upd_ne z] at q; exact F1.exB b u q
    · by_cases z : b = a
      · subst z; exact .inr (.inl hG)
      · rw [upd_ne z]; exact F1.dis b
    · rw [upd_ne (fun z => hO (by rw [← z]; exact hb))]
      exact (F1.own b hb).1
  refine h _ G _ σ _ Fb trivial fun ps δ1 vs G1 H1 w1 e1 F1 rk rv p1 => ?_
  obtain ⟨kds, ep, hl, w1⟩ := w1
  subst ep
  have hk : Reps c.K G1 (kds.map fun kv => keyD kv.1) (vs.map (·.1)) := by simpa [List.map_map, Function.comp_def] using rk
  have hv : Reps c.K G1 (kds.map (·.2)) (vs.map (·.2)) := by simpa [List.map_map, Function.comp_def] using rv
  obtain ⟨kvs, ev, hr⟩ := pairs_rep hk hv
  have hH1 : H1 a = some (.dK []) := F1.exB a _ upd_same
  have hG1 : G1 a = none := F1.disN upd_same (fun _ z => nomatch z)
  have hO1 : a ∉ owned δ1 := fun z => by
    have q := (F1.own a z).1
    rw [upd_same] at q
    cases q
  refine ⟨hH1, kvs, ev, by rw [repK_len hr]; exact hl, ?_⟩
  have F2 : Frame c.K B G1 (upd H1 a (.dK (mergeK [] kvs))) σ δ1 := by
    refine ⟨fun b u q => ?_, fun b u q => ?_, fun b => ?_, F1.sl.ex (Ex.refl G1) (fun b hb => upd_ne fun z => hO1 (by rw [← z]; exact hb)), fun b hb => ⟨?_, (F1.own b hb).2⟩, F1.nd⟩
    · have z : b ≠ a := fun z => by subst z; rw [hB] at q; cases q
      rw [upd_ne z]
      exact F1.exB b u (by rw [upd_ne z]; exact q)
    · have z : b ≠ a := fun z => by subst z; rw [hG1] at q; cases q
      rw [upd_ne z]
      exact F1.exG b u q
    · by_cases z : b = a
      · subst z; exact .inl hB
      · have q := F1.dis b; rw [upd_ne z] at q; exact q
    · have z : b ≠ a := fun z => hO1 (by rw [← z]; exact hb)
      have q := (F1.own b hb).1
      rw [upd_ne z] at q
      exact q
  refine k _ δ1 _ G1 _ (w1 a) e1 F2 ⟨rfl, ⟨_, upd_same, repK_merge hr (by unfold RepK; rfl)⟩, hB, hG1, hO1⟩ fun hp => ⟨(p1 hp).1, fun b u q => ?_⟩
  have z : b ≠ a := fun z => by subst z; rw [ha] at q; cases q
  rw [upd_ne z]
  exact (p1 hp).2 b u (by rw [upd_ne z]; exact q)
end
end DL

/-! DL7: the words as they are used. -/
namespace DL
open PySem PySem.Spec PyProof.Rows L2
open Evl (Ex)
/-! ### readings that the printer names -/
def rIsNA : R2 := fun x y H Q => y = .non ∧ Q (.bl (decide (x = .non))) H
def rNotNA : R2 := fun x y H Q => y = .non ∧ Q (.bl (!decide (x = .non))) H
theorem op_isNA {X : Cx} : OpR X (compareOp .Is) rIsNA := op_isN
theorem op_notNA {X : Cx} : OpR X (compareOp .IsNot) rNotNA := op_notN
def rSubA : R2 := rI0 fun i j => .int (i - j)
def rDivA : R2 := rI CDivW fun i j => .int (i / j)
def rModA : R2 := rI (fun _ j => 0 < j) fun i j => .int (i % j)
def rPowA : R2 := rI CPow fun i j => .int (i ^ j.toNat)
def rShlA : R2 := rI CPow fun i j => .int (i * 2 ^ j.toNat)
def rShrA : R2 := rI (fun _ j => 0 ≤ j) fun i j => .int (i / 2 ^ j.toNat)
def rLtA : R2 := rI0 fun i j => .bl (decide (i < j))
def rLeA : R2 := rI0 fun i j => .bl (decide (i ≤ j))
def rGtA : R2 := rI0 fun i j => .bl (decide (j < i))
def rGeA : R2 := rI0 fun i j => .bl (decide (j ≤ i))
def uNegA : V → Hp → VK → Prop := rU fun i => .int (-i)
def rAddI : TIp := fun x y H Q => rI0 (fun i j => .int (i + j)) x y H Q ∨ rAddS x y H Q
theorem iop_addA {X : Cx} : PIp X .Add rAddI := OpR.or (f := inplaceOp .Add) iop_add iop_add_str
section
variable {X : Cx}
theorem op_subA : OpR X (binaryOp .Sub) rSubA := op_sub
theorem op_divA : OpR X (binaryOp .FloorDiv) rDivA := op_fdivW
theorem op_modA : OpR X (binaryOp .Mod) rModA := op_mod
theorem op_powA : OpR X (binaryOp .Pow) rPowA := op_pow
theorem op_shlA : OpR X (binaryOp .LShift) rShlA := op_shl
theorem op_shrA : OpR X (binaryOp .RShift) rShrA := op_shr
theorem op_ltA : OpR X (compareOp .Lt) rLtA := op_lt
theorem op_leA : OpR X (compareOp .LtE) rLeA := op_le
theorem op_gtA : OpR X (compareOp .Gt) rGtA := op_gt
theorem op_geA : OpR X (compareOp .GtE) rGeA := op_ge
theorem un_negA : UnR X (unaryOp .USub) uNegA := un_neg
theorem call_lenA : CallR X (.builtin "len") (rLenA X.K) := call_len
theorem call_maxA (hc : X.calm = true) : CallR X (.builtin "max") rMax2 := call_max2 hc
theorem call_minA (hc : X.calm = true) : CallR X (.builtin "min") rMin2 := call_min2 hc
theorem call_strA : CallR X (.type "str") rStrI := call_str_int
theorem call_listA : CallR X (.type "list") (rListA X.K) := call_list_of
theorem call_tupA : CallR X (.type "tuple") (rTupA X.K) := call_tuple_of
theorem mt_joinA : MtR X "str.join" (rJoinA X.K) := L2.mt_join
theorem mt_findA : MtR X "str.find" rFindA := L2.mt_find
theorem mt_appendA : MtR X "list.append" rAppend := mt_append
end
/-! ### the words -/
def W (c : Cd) (t : TS) (δ : List Sl) (N : List Sl → Prop) (R : R → List Sl → Prop) (B C : List Sl → Prop) : Prop := WS c t δ ⟨N, R, B, C⟩
section
variable {c : Cd} {p : Bool} {δ : List Sl} {te ta tb : TE} {t u : TS} {tt : TT} {g : TG} {N B C : List Sl → Prop} {Rt : R → List Sl → Prop}
theorem w_seq (h : W c t δ (fun δ' => W c u δ' N Rt B C) Rt B C) : W c (tSeq t u) δ N Rt B C := ws_seq h
theorem w_next (h : N δ) : W c tNext δ N Rt B C := ws_next h
theorem w_break (h : B δ) : W c tBreak δ N Rt B C := ws_break h
theorem w_cont (h : C δ) : W c tCont δ N Rt B C := ws_cont h
theorem w_drop (h : WE c false te δ fun _ δ1 => N δ1) : W c (tDrop te) δ N Rt B C := ws_drop h
theorem w_ret (h : WE c false te δ Rt) : W c (tRet te) δ N Rt B C := ws_ret h
theorem w_retN (h : Rt (.d .non) δ) : W c tRetN δ N Rt B C := ws_retN h
theorem w_if (h : WT c false tt δ fun b δ1 => (b = true → W c t δ1 N Rt B C) ∧ (b = false → W c u δ1 N Rt B C)) : W c (tIfS tt t u) δ N Rt B C := ws_if h
theorem w_asg (h : WE c false te δ fun r δ1 => WG c g r δ1 N) : W c (tAsg te g) δ N Rt B C := ws_asg h
theorem w_never (h : False) : W c tNever δ N Rt B C := h.elim
theorem w_aug {i : Nat} {ti : TIp} {f : Dop} (ho : OpD c ti f) (r1 : R) (hr : rd δ i = some r1) (h : WE c false te δ fun r2 δ2 => ∃ x y, view δ2 (frz r1) = some x ∧ view δ2 (frz r2) = some y ∧ f x y fun r => ∃ s, slOf r = some s ∧ N (δ2.set i s)) : W c (tAug i te ti) δ N Rt B C := ws_aug ho ⟨r1, hr, h⟩
theorem w_par {i j : Nat} {tr : TA} (h : WA c false tr δ fun rs δ1 => ∃ x y, rs = [.d x, .d y] ∧ N ((δ1.set i (.d x)).set j (.d y))) : W c (tPar i j tr) δ N Rt B C := ws_par h
theorem w_for {wi : TI} (h : WI c false wi δ fun ds δ1 => ∃ I : Nat → List Sl → Prop, I 0 δ1 ∧
    (∀ i d δ2, ds[i]? = some d → I i δ2 → WG c g (.d d) δ2 fun δ3 => W c t δ3 (I (i + 1)) Rt N (I (i + 1))) ∧ ∀ δ2, I ds.length δ2 → N δ2) : W c (tFor wi g t) δ N Rt B C := ws_for h
theorem w_while (I : Nat → List Sl → Prop) (n : Nat) (h0 : I n δ) (hs : ∀ m δ', I m δ' → WT c false tt δ' fun b δ2 => (b = true → W c t δ2 (fun δ3 => ∃ m', m' < m ∧ I m' δ3) Rt N (fun δ3 => ∃ m', m' < m ∧ I m' δ3)) ∧ (b = false → N δ2)) : W c (tWhile tt t) δ N Rt B C := ws_while (I := I) n h0 hs
theorem w_frz (i : Nat) {a : Addr} {x : D} (e : δ[i]? = some (.own a x)) (h : W c t (δ.set i (.d x)) N Rt B C) : W c t δ N Rt B C := ws_frz i e h
theorem w_forget (i : Nat) (h : W c t (δ.set i .no) N Rt B C) : W c t δ N Rt B C := ws_forget i h
theorem w_mono {N' B' C' : List Sl → Prop} {Rt' : R → List Sl → Prop} (h : W c t δ N Rt B C) (m1 : ∀ δ', N δ' → N' δ') (m2 : ∀ r δ', Rt r δ' → Rt' r δ') (m3 : ∀ δ', B δ' → B' δ') (m4 : ∀ δ', C δ' → C' δ') : W c t δ N' Rt' B' C' := ws_mono h m1 m2 m3 m4
/-! ### operations on data, as they come out -/
variable {k : R → Prop} {i j : Int} {x y : D} {xs ys : List D} {s z : Str} {b : Bool}
theorem dAdd_i (h : k (.d (.int (i + j)))) : dAdd (.int i) (.int j) k := h
theorem dAdd_s (h1 : s.length + z.length ≤ 16000000) (h : k (.d (.str (s ++ z)))) : dAdd (.str s) (.str z) k := ⟨h1, h⟩
theorem dAdd_l (h1 : xs.length + ys.length ≤ 100000) (h : ∀ a, k (.own a (.lst (xs ++ ys)))) : dAdd (.lst xs) (.lst ys) k := ⟨h1, h⟩
theorem dInt0_i {g : Int → Int → D} (h : k (.d (g i j))) : dInt0 g (.int i) (.int j) k := h
theorem dInt_i {Cc : Int → Int → Prop} {g : Int → Int → D} (hc : Cc i j) (h : k (.d (g i j))) : dInt Cc g (.int i) (.int j) k := ⟨hc, h⟩
theorem dMul_i (hc : CMul i j ∨ CMulX i j) (h : k (.d (.int (i * j)))) : dMul (.int i) (.int j) k := ⟨hc, h⟩
theorem dMul_s (hc : s.length ≤ 1000 ∧ i ≤ 4000 ∧ -4000 ≤ i) (h : k (.d (.str (Txt.mul s i)))) : dMul (.str s) (.int i) k := ⟨hc, h⟩
theorem dEq_s {f : Bool → Bool} (e : sEq x y = some b) (h : k (.d (.bl (f b)))) : dEqF f x y k := .inl ⟨b, e, h⟩
theorem dEq_d {f : Bool → Bool} {d e : PyData} (h1 : py x = some d) (h2 : py y = some e) (h3 : SeqAt.shaped d = true) (h4 : SeqAt.shaped e = true) (h : k (.d (.bl (f (PyData.eqv d e))))) : dEqF f x y k := .inr ⟨d, e, h1, h2, h3, h4, h⟩
theorem dIn_s {f : Bool → Bool} {ch : Nat} (h : k (.d (.bl (f (decide (ch ∈ z.cps.toList)))))) : dIn f (.str ⟨#[ch]⟩) (.str z) k := ⟨ch, rfl, h⟩
theorem dIn_l {f : Bool → Bool} (h1 : flatD x = true) (h2 : xs.all flatD = true) (h : k (.d (.bl (f (inD x xs))))) : dIn f x (.lst xs) k := by cases x <;> exact ⟨h1, h2, h⟩
theorem dIn_t {f : Bool → Bool} (h1 : flatD x = true) (h2 : xs.all flatD = true) (h : k (.d (.bl (f (inD x xs))))) : dIn f x (.tup xs) k := by cases x <;> exact ⟨h1, h2, h⟩
theorem dIx_l (h1 : atI xs i = some x) (h : k (.d x)) : dIx (.lst xs) (.int i) k := ⟨x, h1, h⟩
theorem dIx_r (h1 : atI xs i = some x) (h : k (.d x)) : dIx (.ro xs) (.int i) k := ⟨x, h1, h⟩
theorem dIx_t (h1 : atI xs i = some x) (h : k (.d x)) : dIx (.tup xs) (.int i) k := ⟨x, h1, h⟩
theorem dIx_s {ch : Nat} (h0 : z.length ≤ 16000000) (h1 : atI z.cps.toList i = some ch) (h : k (.d (.str ⟨#[ch]⟩))) : dIx (.str z) (.int i) k := ⟨h0, ch, h1, h⟩
theorem dSl_l {lo hi : Option Int} (h : ∀ a, k (.own a (.lst (cutD xs lo hi)))) : dSl (.lst xs) lo hi k := h
theorem dSl_s {lo hi : Option Int} (h0 : z.length ≤ 16000000) (h : k (.d (.str (cutS z lo hi)))) : dSl (.str z) lo hi k := ⟨h0, h⟩
theorem dIsN_ {f : Bool → Bool} (h : k (.d (.bl (f (isNon x))))) : dIsN f x .non k := ⟨rfl, h⟩
theorem dIsB_ {f : Bool → Bool} {a b : Bool} (h : k (.d (.bl (f (decide (a = b)))))) : dIsB f (.bl a) (.bl b) k := h
theorem br_t {P Q : Prop} (h : P) : (true = true → P) ∧ (true = false → Q) := ⟨fun _ => h, fun q => nomatch q⟩
theorem br_f {P Q : Prop} (h : Q) : (false = true → P) ∧ (false = false → Q) := ⟨fun q => (nomatch q), fun _ => h⟩
theorem br {P Q : Prop} {b : Bool} (h1 : b = true → P) (h2 : b = false → Q) : (b = true → P) ∧ (b = false → Q) := ⟨h1, h2⟩
/-- by a proposition -/
theorem br_d {P Q A : Prop} [Decidable A] (h1 : A → P) (h2 : ¬ A → Q) : (decide A = true → P) ∧ (decide A = false → Q) := ⟨fun h => h1 (of_decide_eq_true h), fun h => h2 (of_decide_eq_false h)⟩
theorem br_n {P Q A : Prop} [Decidable A] (h1 : ¬ A → P) (h2 : A → Q) : ((!decide A) = true → P) ∧ ((!decide A) = false → Q) := ⟨fun h => h1 (by simpa using h), fun h => h2 (by simpa using h)⟩
theorem br_not {P Q : Prop} (h : (b = true → Q) ∧ (b = false → P)) : ((!b) = true → P) ∧ ((!b) = false → Q) := ⟨fun q => h.2 (by simpa using q), fun q => h.1 (by simpa using q)⟩
theorem opd_addA' : OpD c rAddA dAdd := opd_add
theorem opd_subA : OpD c rSubA (dInt0 fun i j => .int (i - j)) := opd_sub
theorem opd_divA : OpD c rDivA (dInt CDivW fun i j => .int (i / j)) := opd_fdiv
theorem opd_modA : OpD c rModA (dInt (fun _ j => 0 < j) fun i j => .int (i % j)) := opd_mod
theorem opd_powA : OpD c rPowA (dInt CPow fun i j => .int (i ^ j.toNat)) := opd_pow
theorem opd_shlA : OpD c rShlA (dInt CPow fun i j => .int (i * 2 ^ j.toNat)) := opd_shl
theorem opd_shrA : OpD c rShrA (dInt (fun _ j => 0 ≤ j) fun i j => .int (i / 2 ^ j.toNat)) := opd_shr
theorem opd_ltA : OpD c rLtA (dInt0 fun i j => .bl (decide (i < j))) := opd_lt
theorem opd_leA : OpD c rLeA (dInt0 fun i j => .bl (decide (i ≤ j))) := opd_le
theorem opd_gtA : OpD c rGtA (dInt0 fun i j => .bl (decide (j < i))) := opd_gt
theorem opd_geA : OpD c rGeA (dInt0 fun i j => .bl (decide (j ≤ i))) := opd_ge
theorem opd_isNA : OpD c rIsNA (dIsN id) := opd_isN
theorem opd_notNA : OpD c rNotNA (dIsN not) := opd_notN
def dAddI : Dop
  | .int i, .int j, k => k (.d (.int (i + j)))
  | .str x, .str y, k => x.length + y.length ≤ 16000000 ∧ k (.d (.str (x ++ y)))
  | _, _, _ => False
theorem opd_addI : OpD c rAddI dAddI := by
  intro B G H σ δ r1 r2 v1 v2 x y Ψ Q F h1 h2 e1 e2 hf k
  cases x with
  | int i =>
    cases y with
    | int j =>
      have q1 := view_repH F h1 e1
      have q2 := view_repH F h2 e2
      unfold Rep at q1 q2
      exact .inl ⟨i, j, q1, q2, k (.d (.int (i + j))) _ G H hf (Ex.refl G) (Ex.refl H) F (rep_int (K := c.K) (G := G))⟩
    | _ => exact hf.elim
  | str i =>
    cases y with
    | str j =>
      have q1 := view_repH F h1 e1
      have q2 := view_repH F h2 e2
      unfold Rep at q1 q2
      exact .inr ⟨i, j, q1, q2, size16 hf.1, k (.d (.str (i ++ j))) _ G H hf.2 (Ex.refl G) (Ex.refl H) F (rep_str (K := c.K) (G := G))⟩
    | _ => exact hf.elim
  | _ => exact hf.elim
theorem dAddI_i (h : k (.d (.int (i + j)))) : dAddI (.int i) (.int j) k := h
theorem dAddI_s (h1 : s.length + z.length ≤ 16000000) (h : k (.d (.str (s ++ z)))) : dAddI (.str s) (.str z) k := ⟨h1, h⟩
theorem we_negA {Φ : R → List Sl → Prop} (h : WE c p ta δ fun r δ1 => ∃ i, r = .d (.int i) ∧ Φ (.d (.int (-i))) δ1) : WE c p (tUn uNegA ta) δ Φ := we_neg h
/-- the def's own words from the parameters' -/
theorem lift_W {K : PySem.W.Frag} {S : SpD} {t : TS} {Nm : List Str} {vs : List V} {H : Hp} {Q : VK} {X : XK} (h : lift K S vs H Q X)
    (hb : ∀ as Φ, S as Φ → W (c0 K) t (as ++ List.replicate (Nm.length - as.length) .no) (RetD as Φ (.d .non)) (RetD as Φ) (fun _ => False) (fun _ => False)) : t { nx := fun _ H' => Q .non H', rt := Q } (L2.start Nm vs) H :=
  lift_body h fun as Φ _ hS => hb as Φ hS
theorem lift_len {K : PySem.W.Frag} {S : SpD} {n : Nat} (hl : ∀ as Φ, S as Φ → as.length = n) {vs : List V} {H : Hp} {Q : VK} {X : XK} (h : lift K S vs H Q X) : vs.length = n := by
  obtain ⟨B, G, as, F, hS⟩ := h
  have e := F.sl.len
  rw [← hl as _ hS, ← e, List.length_map]
end
end DL
namespace DL
open PySem PySem.Spec PyProof.Rows L2
section
variable {c : Cd} {p : Bool} {δ δ' : List Sl} {r1 r2 : R} {x y : D} {b : Bool} {k : R → Prop} {f : Dop}
theorem ex_op (h1 : view δ r1 = some x) (h2 : view δ r2 = some y) (q : f x y k) : ∃ x y, view δ r1 = some x ∧ view δ r2 = some y ∧ f x y k := ⟨x, y, h1, h2, q⟩
theorem ex_bl {P : Bool → Prop} (q : P b) : ∃ b', R.d (.bl b) = .d (.bl b') ∧ P b' := ⟨b, rfl, q⟩
theorem ex_bl2 {P Q : Bool → Prop} (q1 : P b) (q2 : Q b) : ∃ b', R.d (.bl b) = .d (.bl b') ∧ P b' ∧ Q b' := ⟨b, rfl, q1, q2⟩
theorem ex_int {i : Int} {P : Int → Prop} (q : P i) : ∃ i', R.d (.int i) = .d (.int i') ∧ P i' := ⟨i, rfl, q⟩
theorem ex_dat {P : D → Prop} (h : frz r1 = .d x) (q : P x) : ∃ x, frz r1 = .d x ∧ P x := ⟨x, h, q⟩
theorem ex_ds {rs : List R} {ds : List D} {P : List D → Prop} (h : datas rs = some ds) (q : P ds) : ∃ ds, datas rs = some ds ∧ P ds := ⟨ds, h, q⟩
theorem ex_vs {rs : List R} {ds : List D} {P : List D → Prop} (h : views δ rs = some ds) (q : P ds) : ∃ ds, views δ rs = some ds ∧ P ds := ⟨ds, h, q⟩
theorem ex_tr (h1 : view δ r1 = some x) (h2 : truD x = some b) (h3 : strOk x) (h4 : ∀ ds, x = .dct ds → ∃ i a, r2 = .bor i a) {Pb : Bool → Prop} (q : Pb b) : ∃ x b, view δ r1 = some x ∧ truD x = some b ∧ strOk x ∧ (∀ ds, x = .dct ds → ∃ i a, r2 = .bor i a) ∧ Pb b := ⟨x, b, h1, h2, h3, h4, q⟩
/-- the truth of a truth -/
theorem ex_trb {P : Bool → Prop} (q : P b) : ∃ x b', view δ (frz (R.d (.bl b))) = some x ∧ truD x = some b' ∧ strOk x ∧ (∀ ds, x = .dct ds → ∃ i a, R.d (.bl b) = .bor i a) ∧ P b' := ⟨_, b, rfl, rfl, trivial, (fun _ e => nomatch e), q⟩
theorem ex_len {n : Nat} {P : Nat → Prop} (h1 : strOk x) (h2 : lenD x = some n) (q : P n) : ∃ x', [x] = [x'] ∧ strOk x' ∧ ∃ n, lenD x' = some n ∧ P n := ⟨x, rfl, h1, n, h2, q⟩
theorem ex_isi {P : Bool → Prop} (h2 : isiD x y = some b) (q : P b) : ∃ x' y', [x, y] = [x', y'] ∧ ∃ b, isiD x' y' = some b ∧ P b := ⟨x, y, rfl, b, h2, q⟩
theorem ex_two {g : Int → Int → Int} {i j : Int} {Φ : R → Prop} (q : Φ (.d (.int (g i j)))) : ∃ x y, [D.int i, D.int j] = [x, y] ∧ dInt2 g x y Φ := ⟨_, _, rfl, q⟩
theorem ex_lst {ds : List D} {P : List D → Prop} (h : frz r1 = .d (.lst ds)) (q : P ds) : ∃ ds, frz r1 = .d (.lst ds) ∧ P ds := ⟨ds, h, q⟩
theorem ex_it {ds : List D} {P : List D → Prop} (h : frz r1 = .d x) (h2 : itemsD x = some ds) (q : P ds) : ∃ y ds, frz r1 = .d y ∧ itemsD y = some ds ∧ P ds := ⟨x, ds, h, h2, q⟩
theorem ex_view {P : D → Prop} (h : view δ r1 = some x) (q : P x) : ∃ x, view δ r1 = some x ∧ P x := ⟨x, h, q⟩
theorem wt_yes {Φ : Bool → List Sl → Prop} (q : Φ true δ) : WT c p tYes δ Φ := fun B G H σ Q F x k => k true δ G H q (Evl.Ex.refl G) F fun _ => ⟨rfl, Evl.Ex.refl H⟩
/-- types of flat things are told -/
theorem isi_ty {n T : String} (h : tyD x = some T) (h2 : kitB T n = some b) : isiD x (.ty n) = some b := by
  unfold isiD
  rw [h]
  exact h2
end
theorem kit_ii : kitB "int" "int" = some true := by decide +kernel
theorem kit_bi : kitB "bool" "int" = some true := by decide +kernel
theorem kit_ib : kitB "int" "bool" = some false := by decide +kernel
theorem kit_bb : kitB "bool" "bool" = some true := by decide +kernel
theorem kit_si : kitB "str" "int" = some false := by decide +kernel
theorem kit_sb : kitB "str" "bool" = some false := by decide +kernel
theorem kit_ss : kitB "str" "str" = some true := by decide +kernel
theorem kit_is : kitB "int" "str" = some false := by decide +kernel
theorem kit_bs : kitB "bool" "str" = some false := by decide +kernel
theorem kit_ni : kitB "NoneType" "int" = some false := by decide +kernel
theorem kit_nb : kitB "NoneType" "bool" = some false := by decide +kernel
theorem kit_ns : kitB "NoneType" "str" = some false := by decide +kernel
theorem kit_li : kitB "list" "int" = some false := by decide +kernel
theorem kit_lb : kitB "list" "bool" = some false := by decide +kernel
theorem kit_ls : kitB "list" "str" = some false := by decide +kernel
theorem kit_ti : kitB "tuple" "int" = some false := by decide +kernel
theorem kit_tb : kitB "tuple" "bool" = some false := by decide +kernel
theorem kit_ts : kitB "tuple" "str" = some false := by decide +kernel
theorem kit_di : kitB "dict" "int" = some false := by decide +kernel
theorem kit_db : kitB "dict" "bool" = some false := by decide +kernel
theorem kit_ds : kitB "dict" "str" = some false := by decide +kernel
/-- isinstance(x, int), (x, bool), (x, str) -/
def isIntD : D → Bool
  | .int _ => true | .bl _ => true | _ => false
def isBlD : D → Bool
  | .bl _ => true | _ => false
def isStrD : D → Bool
  | .str _ => true | _ => false
theorem isi_int {x : D} (h : (tyD x).isSome = true) : isiD x (.ty "int") = some (isIntD x) := by
  cases x <;> first | (cases h; done) | exact isi_ty rfl kit_ii | exact isi_ty rfl kit_bi | exact isi_ty rfl kit_si | exact isi_ty rfl kit_ni | exact isi_ty rfl kit_li | exact isi_ty rfl kit_ti | exact isi_ty rfl kit_di
theorem isi_bl {x : D} (h : (tyD x).isSome = true) : isiD x (.ty "bool") = some (isBlD x) := by
  cases x <;> first | (cases h; done) | exact isi_ty rfl kit_ib | exact isi_ty rfl kit_bb | exact isi_ty rfl kit_sb | exact isi_ty rfl kit_nb | exact isi_ty rfl kit_lb | exact isi_ty rfl kit_tb | exact isi_ty rfl kit_db
theorem isi_str {x : D} (h : (tyD x).isSome = true) : isiD x (.ty "str") = some (isStrD x) := by
  cases x <;> first | (cases h; done) | exact isi_ty rfl kit_is | exact isi_ty rfl kit_bs | exact isi_ty rfl kit_ss | exact isi_ty rfl kit_ns | exact isi_ty rfl kit_ls | exact isi_ty rfl kit_ts | exact isi_ty rfl kit_ds
end DL
namespace DL
open PySem PySem.Spec PyProof.Rows L2
/-- a def's words: what is to be shown of its body -/
def Ws (S : SpD) (t : PySem.W.Frag → TS) (pad : List Sl) : Prop := ∀ (K : PySem.W.Frag) (as : List Sl) (Φ : R → List Sl → Prop), S as Φ → W (c0 K) (t K) (as ++ pad) (RetD as Φ (.d .non)) (RetD as Φ) (fun _ => False) (fun _ => False)
theorem lift_Ws {K : PySem.W.Frag} {S : SpD} {t : PySem.W.Frag → TS} {n m : Nat} {Nm : List Str} {vs : List V} {H : Hp} {Q : VK} {X : XK} (hl : ∀ as Φ, S as Φ → as.length = n) (hm : Nm.length = n + m) (hb : Ws S t (List.replicate m .no)) (h : lift K S vs H Q X) :
    t K { nx := fun _ H' => Q .non H', rt := Q } (L2.start Nm vs) H := lift_W h fun as Φ hS => by
  have e : Nm.length - as.length = m := by rw [hl as Φ hS, hm]; omega
  rw [e]
  exact hb K as Φ hS
end DL
namespace DL
open PySem PySem.Spec PyProof.Rows L2
section
variable {c : Cd} {p : Bool} {δ : List Sl} {r1 r2 r3 : R} {x y z : D}
theorem we_ci {i : Int} {Φ : R → List Sl → Prop} (q : Φ (.d (.int i)) δ) : WE c p (tC (.int i)) δ Φ := we_c q
theorem we_cs {i : Str} {Φ : R → List Sl → Prop} (q : Φ (.d (.str i)) δ) : WE c p (tC (.str i)) δ Φ := we_c q
theorem we_cb' {i : Bool} {Φ : R → List Sl → Prop} (q : Φ (.d (.bl i)) δ) : WE c p (tC (.bl i)) δ Φ := we_c q
theorem we_cn {Φ : R → List Sl → Prop} (q : Φ (.d .non) δ) : WE c p (tC .non) δ Φ := we_c q
theorem we_ct {i : String} {Φ : R → List Sl → Prop} (q : Φ (.d (.ty i)) δ) : WE c p (tC (.ty i)) δ Φ := we_c q
theorem ex_vs1 {P : List D → Prop} (h : view δ r1 = some x) (q : P [x]) : ∃ ds, views δ [r1] = some ds ∧ P ds := ⟨[x], by unfold views; rw [h]; rfl, q⟩
theorem ex_vs2 {P : List D → Prop} (h : view δ r1 = some x) (h2 : view δ r2 = some y) (q : P [x, y]) : ∃ ds, views δ [r1, r2] = some ds ∧ P ds := ⟨[x, y], by unfold views; rw [h]; unfold views; rw [h2]; rfl, q⟩
theorem ex_vs3 {P : List D → Prop} (h : view δ r1 = some x) (h2 : view δ r2 = some y) (h3 : view δ r3 = some z) (q : P [x, y, z]) : ∃ ds, views δ [r1, r2, r3] = some ds ∧ P ds := ⟨[x, y, z], by unfold views; rw [h]; unfold views; rw [h2]; unfold views; rw [h3]; rfl, q⟩
theorem datas_nil : datas [] = some [] := rfl
theorem datas_cons {rs : List R} {ds : List D} (h : datas rs = some ds) : datas (.d x :: rs) = some (x :: ds) := by unfold datas; rw [h]; rfl
theorem ex_lsd {ds : List D} {rs : List R} {P : List D → Prop} (h : datas rs = some ds) (hl : ds.length ≤ 100000) (q : P ds) : ∃ ds, datas rs = some ds ∧ ds.length ≤ 100000 ∧ P ds := ⟨ds, h, hl, q⟩
end
end DL
namespace DL
open PySem PySem.Spec PyProof.Rows L2
section
variable {c : Cd} {p : Bool} {δ δ' : List Sl} {r r1 r2 : R} {x y z : D} {i : Nat} {a : Addr} {s : Sl}
theorem wg_nameN {Φ : List Sl → Prop} (e : slOf r = some s) (hs : δ.set i s = δ') (h : Φ δ') : WG c (gName i) r δ Φ := wg_name e (by rw [hs]; exact h)
theorem ex_bor {P : Nat → Addr → Prop} (q : P i a) : ∃ i' a', R.bor i a = .bor i' a' ∧ P i' a' := ⟨i, a, rfl, q⟩
theorem ex_set {P : List Sl → Prop} {n : Int} {ds ds2 : List D} {j : Nat} (h1 : δ[i]? = some (.own a (.lst ds))) (h2 : ixN ds.length n = some j) (h3 : ds.set j x = ds2) (h4 : δ.set i (.own a (.lst ds2)) = δ') (q : P δ') :
    ∃ n' ds' j', R.d (.int n) = .d (.int n') ∧ δ[i]? = some (.own a (.lst ds')) ∧ ixN ds'.length n' = some j' ∧ P (δ.set i (.own a (.lst (ds'.set j' x)))) := ⟨n, ds, j, rfl, h1, h2, by rw [h3, h4]; exact q⟩
theorem cdiv_ok {i j : Int} (h : 0 < j) (h2 : j < 2 ^ 200) : CDivW i j := wide_div (b := 200) h (by omega) (by decide) (by decide)
theorem toAs_nil : toAs δ [] = some [] := rfl
theorem toAs_d {rs : List R} {as : List Sl} (h : toAs δ rs = some as) : toAs δ (.d x :: rs) = some (.d x :: as) := by unfold toAs; rw [h]; rfl
theorem toAs_b {rs : List R} {as : List Sl} (e : δ[i]? = some (.own a x)) (h : toAs δ rs = some as) : toAs δ (.bor i a :: rs) = some (.own a x :: as) := by
  unfold toAs
  rw [e]
  simp [h]
theorem ex_call {as : List Sl} {rs : List R} {A : Prop} {P : List Sl → Prop} (h1 : toAs δ rs = some as) (h2 : (owned as).Nodup) (h3 : A) (q : P as) : ∃ as, toAs δ rs = some as ∧ (owned as).Nodup ∧ A ∧ P as := ⟨as, h1, h2, h3, q⟩
/-- a method that changes a list -/
theorem ex_mu {P : Nat → Addr → Prop} (q : P i a) (ds : List D) (h : δ[i]? = some (.own a (.lst ds))) {Q : Nat → Addr → Prop} (q2 : Q i a) : ∃ i' a', R.bor i a = .bor i' a' ∧ (∃ ds, δ[i']? = some (.own a' (.lst ds))) ∧ Q i' a' := ⟨i, a, rfl, ⟨ds, h⟩, q2⟩
theorem ex_mu1 {Q : Nat → Addr → Prop} {ds : List D} (h : δ[i]? = some (.own a (.lst ds))) (q2 : Q i a) : ∃ i' a', R.bor i a = .bor i' a' ∧ (∃ ds, δ[i']? = some (.own a' (.lst ds))) ∧ Q i' a' := ⟨i, a, rfl, ⟨ds, h⟩, q2⟩
theorem ex_app {P : List Sl → Prop} {ds : List D} (h1 : δ[i]? = some (.own a (.lst ds))) (h2 : ds.length < 100000) (h4 : δ.set i (.own a (.lst (ds ++ [x]))) = δ') (q : P δ') :
    ∃ ds es, datas [R.d x] = some es ∧ δ[i]? = some (.own a (.lst ds)) ∧ ∃ x, es = [x] ∧ ds.length < 100000 ∧ P (δ.set i (.own a (.lst (ds ++ [x])))) := ⟨ds, [x], rfl, h1, x, rfl, h2, by rw [h4]; exact q⟩
end
end DL
namespace DL
open PySem PySem.Spec PyProof.Rows L2
section
variable {c : Cd} {p : Bool} {δ δ' : List Sl} {r r1 r2 : R} {x y z : D} {i : Nat} {a : Addr} {s : Sl} {te ta tb : TE} {tr : TA} {N B C : List Sl → Prop} {Rt : R → List Sl → Prop}
theorem all_eqN {P : List Sl → Prop} {e : List Sl} (hs : e = δ') (q : P δ') : ∀ δ3, δ3 = e → P δ3 := fun δ3 h => by rw [h, hs]; exact q
theorem wg_setLN {Φ : List Sl → Prop} (h : ∃ x, frz r = .d x ∧ WE c false ta δ fun r1 δ1 => ∃ i a, r1 = .bor i a ∧ WE c false tb δ1 fun r2 δ2 => ∃ n ds j, r2 = .d (.int n) ∧ δ2[i]? = some (.own a (.lst ds)) ∧ ixN ds.length n = some j ∧ ∀ δ3, δ3 = δ2.set i (.own a (.lst (ds.set j x))) → Φ δ3) :
    WG c (gSub ta tb rSetL) r δ Φ := by
  obtain ⟨x, e, h⟩ := h
  refine wg_setL ⟨x, e, we_mono h fun r1 δ1 ⟨i, a, e1, h1⟩ => ⟨i, a, e1, we_mono h1 fun r2 δ2 ⟨n, ds, j, q1, q2, q3, q4⟩ => ⟨n, ds, j, q1, q2, q3, q4 _ rfl⟩⟩⟩
theorem ex_setN {P : List D → Nat → Prop} {n : Int} {ds : List D} {j : Nat} (h1 : δ[i]? = some (.own a (.lst ds))) (h2 : ixN ds.length n = some j) (q : P ds j) :
    ∃ n' ds' j', R.d (.int n) = .d (.int n') ∧ δ[i]? = some (.own a (.lst ds')) ∧ ixN ds'.length n' = some j' ∧ P ds' j' := ⟨n, ds, j, rfl, h1, h2, q⟩
theorem we_append {Φ : R → List Sl → Prop} (h : WE c false te δ fun r1 δ1 => ∃ i a, r1 = .bor i a ∧ (∃ ds, δ1[i]? = some (.own a (.lst ds))) ∧ WA c false tr δ1 fun rs δ2 => ∃ ds x, rs = [.d x] ∧ δ2[i]? = some (.own a (.lst ds)) ∧ ds.length < 100000 ∧
    ∀ δ3, δ3 = δ2.set i (.own a (.lst (ds ++ [x]))) → Φ (.d .non) δ3) : WE c false (tBM c.K "list" rAppend te tr) δ Φ := by
  refine we_mu mu_append (we_mono h fun r1 δ1 ⟨i, a, e1, h0, h1⟩ => ⟨i, a, e1, h0, ?_⟩)
  intro B G H σ Q F x k
  refine h1 B G H σ Q F x fun rs δ2 vs G' H' ⟨ds, y, e2, e3, hl, q⟩ => k rs δ2 vs G' H' ⟨ds, [y], by rw [e2]; rfl, e3, y, rfl, hl, q _ rfl⟩
theorem ex_appN {P : List D → D → Prop} {ds : List D} (h1 : δ[i]? = some (.own a (.lst ds))) (h2 : ds.length < 100000) (q : P ds x) : ∃ ds' x', [R.d x] = [.d x'] ∧ δ[i]? = some (.own a (.lst ds')) ∧ ds'.length < 100000 ∧ P ds' x' := ⟨ds, x, rfl, h1, h2, q⟩
theorem w_augN {i : Nat} {ti : TIp} {f : Dop} (ho : OpD c ti f) (r1 : R) (hr : rd δ i = some r1) (h : WE c false te δ fun r2 δ2 => ∃ x y, view δ2 (frz r1) = some x ∧ view δ2 (frz r2) = some y ∧ f x y fun r => ∃ s, slOf r = some s ∧ ∀ δ3, δ3 = δ2.set i s → N δ3) : W c (tAug i te ti) δ N Rt B C := by
  have e : (fun s => ∀ δ3, δ3 = s → N δ3) = N := by
    funext s
    exact propext ⟨fun h => h s rfl, fun h δ3 q => by rw [q]; exact h⟩
  have h' := h
  simp only [show ∀ (δ2 : List Sl) (s : Sl), (∀ δ3, δ3 = δ2.set i s → N δ3) = N (δ2.set i s) from fun δ2 s => congrFun e (δ2.set i s)] at h'
  exact w_aug ho r1 hr h'
theorem ex_sl {P : Sl → Prop} (h : slOf r = some s) (q : P s) : ∃ s, slOf r = some s ∧ P s := ⟨s, h, q⟩
theorem w_parN {i j : Nat} (h : WA c false tr δ fun rs δ1 => ∃ x y, rs = [.d x, .d y] ∧ ∀ δ3, δ3 = ((δ1.set i (.d x)).set j (.d y)) → N δ3) : W c (tPar i j tr) δ N Rt B C := by
  refine w_par ?_
  intro B G H σ Q F x k
  exact h B G H σ Q F x fun rs δ2 vs G' H' ⟨a, b, e2, q⟩ => k rs δ2 vs G' H' ⟨a, b, e2, q _ rfl⟩
theorem ex_par {P : D → D → Prop} (q : P x y) : ∃ x' y', [R.d x, R.d y] = [.d x', .d y'] ∧ P x' y' := ⟨x, y, rfl, q⟩
end
end DL
namespace DL
open PySem PySem.Spec PyProof.Rows L2
theorem dPow_ {k : R → Prop} {i j v : Int} (e : i ^ j.toNat = v) (hc : CPow i j) (h : k (.d (.int v))) : dInt CPow (fun i j => .int (i ^ j.toNat)) (.int i) (.int j) k := by
  subst e
  exact ⟨hc, h⟩
end DL

/-! DL8: a comprehension whose members change what the slots hold. -/
namespace DL
open PySem PySem.Spec PyProof.Rows L2
open Evl (Ex)
theorem upd_upd' {H : Hp} {a : Addr} {x y : HO} : upd (upd H a x) a y = upd H a y := by
  funext b
  by_cases q : b = a
  · subst q; rw [upd_same, upd_same]
  · rw [upd_ne q, upd_ne q, upd_ne q]
section
variable {c : Cd} {p : Bool} {δ : List Sl} {te : TE} {tt : TT} {g : TG}
theorem we_lc {wi : TI} {vs : List Nat} {Φ : R → List Sl → Prop} (h : WI c false wi δ fun ds δ1 => ds.length ≤ 100000 ∧ ∃ I : Nat → List D → List Sl → Prop, I 0 [] δ1 ∧ nonOwn δ1 vs ∧
    (∀ (i : Nat) (d : DL.D) (acc : List D) (ε : List Sl), ds[i]? = some d → acc.length ≤ i → I i acc ε → nonOwn ε vs ∧ WGc g c.K d (wipeS ε vs) vs fun ε1 => WT (c0 c.K) false tt ε1 fun b ε2 => (b = true → WE (c0 c.K) false te ε2 fun r ε3 => ∃ x, frz r = .d x ∧ ∀ ε4, ε4 = restS ε (wipeS ε3 vs) vs → I (i + 1) (acc ++ [x]) ε4) ∧ (b = false → ∀ ε4, ε4 = restS ε (wipeS ε2 vs) vs → I (i + 1) acc ε4)) ∧
    ∀ acc δ', acc.length ≤ ds.length → I ds.length acc δ' → ∀ a, Φ (.own a (.lst acc)) δ') : WE c false (tLc wi g tt te vs) δ Φ := by
  intro B G H σ Q F x k
  refine h B G H σ _ F x fun ds δ1 J G1 H1 w e1 F1 p1 ww => ?_
  obtain ⟨hlen, I, hI0, hno, step, w⟩ := w
  obtain ⟨Gd, Y, W, hG, hY⟩ := ww
  intro D hD
  obtain ⟨hB, hG1, hO⟩ := F1.fresh hD
  -- the frame with the list under way behind the wall
  have enter : ∀ {G H : Hp} {σ : St} {ε : List Sl} {xs : List V}, Frame c.K B G H σ ε → H D = none → Frame c.K (upd B D (.lst xs)) G (upd H D (.lst xs)) σ ε := fun {G H σ ε xs} F hD => by
    obtain ⟨q1, q2, q3⟩ := F.fresh hD
    have F' := F.ex (Ex.new (o := .lst xs) hD)
    refine ⟨fun b o e => ?_, F'.exG, fun b => ?_, F'.sl, fun a ha => ⟨?_, (F'.own a ha).2⟩, F'.nd⟩
    · by_cases q : b = D
      · subst q; rw [upd_same] at e ⊢; exact e
      · rw [upd_ne q] at e; exact F'.exB b o e
    · by_cases q : b = D
      · subst q; exact .inr (.inl q2)
      · rw [upd_ne q]; exact F'.dis b
    · rw [upd_ne (fun q => q3 (by rw [← q]; exact ha))]
      exact (F'.own a ha).1
  refine lc_it W (fun i H' => ∃ G' xs acc ε, Ex G1 G' ∧ Frame c.K (upd B D (.lst xs)) G' H' σ ε ∧ Reps c.K G' acc xs ∧ acc.length ≤ i ∧ I i acc ε) ⟨G1, [], [], δ1, Ex.refl G1, enter F1 hD, reps_nil, Nat.le_refl _, hI0⟩
    (fun i H' _ ⟨G', xs, acc, ε, e2, F2, _⟩ => hG H' (e2.trans F2.exG)) (fun i y H2 H3 hi pv yy => ?_) fun H' pv => ?_
  · obtain ⟨G', xs, acc, ε, e2, F2, hr, hal, hI⟩ := pv
    have go : ∀ (d : DL.D) (G2 H2 : Hp), ds[i]? = some d → Ex G1 G2 → Frame c.K (upd B D (.lst xs)) G2 H2 σ ε → Reps c.K G2 acc xs → Rep c.K G2 d y → g y (wipe σ vs) H2 fun σ2 H2 => wipe σ2 vs = wipe σ vs ∧ tt σ2 H2 fun b H3 =>
        if b = true then te σ2 H3 fun y H4 => ∃ ac, H4 D = some (.lst ac) ∧ ac.length < sizeLine ∧ ∃ G' xs acc ε, Ex G1 G' ∧ Frame c.K (upd B D (.lst xs)) G' (upd H4 D (.lst (ac ++ [y]))) σ ε ∧ Reps c.K G' acc xs ∧ acc.length ≤ i + 1 ∧ I (i + 1) acc ε
        else ∃ G' xs acc ε, Ex G1 G' ∧ Frame c.K (upd B D (.lst xs)) G' H3 σ ε ∧ Reps c.K G' acc xs ∧ acc.length ≤ i + 1 ∧ I (i + 1) acc ε := by
      intro d G2 H2 hd e3 F3 hr3 hrep
      obtain ⟨hno2, st⟩ := step i d acc ε hd hal hI
      have Fb := frame_wipe F3 vs
      refine st _ G2 H2 (wipe σ vs) y _ Fb hrep fun ε1 σ1 hw og Fg ew => ⟨ew.trans (wipe_wipe σ vs), ?_⟩
      have ew' : wipe σ1 vs = wipe σ vs := ew.trans (wipe_wipe σ vs)
      -- back to the outer slots
      have out : ∀ {G4 H4 : Hp} {ε4 : List Sl}, Ex G2 G4 → Frame c.K (upd B D (.lst xs)) G4 H4 σ1 ε4 → Frame c.K (upd B D (.lst xs)) G4 H4 σ (restS ε (wipeS ε4 vs) vs) := fun {G4 H4 ε4} e4 F4 => by
        have F5 := frame_wipe F4 vs
        rw [ew'] at F5
        exact ⟨F5.exB, F5.exG, F5.dis, restS_sl F3.sl e4 hno2 F5.sl, fun a ha => F5.own a ((restS_sub hno2).subset ha), F5.nd.sublist (restS_sub hno2)⟩
      refine hw _ G2 H2 σ1 _ Fg trivial fun b ε2 G4 H4 w4 e4 F4 _ => ?_
      cases b with
      | false =>
        rw [if_neg Bool.false_ne_true]
        exact ⟨G4, xs, acc, _, e3.trans e4, out e4 F4, hr3.mono e4, by omega, w4.2 rfl _ rfl⟩
      | true =>
        rw [if_pos rfl]
        refine w4.1 rfl _ G4 H4 σ1 _ F4 trivial fun r ε5 v5 G5 H5 w5 e5 F5 rv5 _ => ?_
        obtain ⟨z, hz, hI5⟩ := w5
        obtain ⟨G6, e6, F6, hr6⟩ := rv5.weak F5
        rw [hz] at hr6
        have hr6' : Rep c.K G6 z v5 := hr6
        have F7 := out (e4.trans (e5.trans e6)) F6
        have hx5 : H5 D = some (.lst xs) := F7.exB D _ upd_same
        have hlx : xs.length ≤ 100000 := by
          have hi' : i < ds.length := by
            rcases Nat.lt_or_ge i ds.length with q | q
            · exact q
            · rw [List.getElem?_eq_none q] at hd; cases hd
          rw [reps_length hr3]
          omega
        have dG : G6 D = none := F7.disN upd_same (fun _ z => nomatch z)
        have hOD : ∀ a ∈ owned (restS ε (wipeS ε5 vs) vs), a ≠ D := fun a ha q => by
          have z := (F7.own a ha).1
          rw [q, upd_same] at z
          cases z
        refine ⟨xs, hx5, Nat.lt_of_le_of_lt hlx (by rw [sizeLine_eq]; decide), G6, xs ++ [v5], acc ++ [z], _, (e3.trans e4).trans (e5.trans e6), ?_, reps_append (hr3.mono ((e4.trans e5).trans e6)) (reps_one hr6'), by rw [List.length_append]; simp; omega, hI5 _ rfl⟩
        refine ⟨fun b o e => ?_, fun b o e => ?_, fun b => ?_, F7.sl.ex (Ex.refl _) (fun a ha => upd_ne (hOD a ha)), fun a ha => ⟨?_, (F7.own a ha).2⟩, F7.nd⟩
        · by_cases q : b = D
          · subst q; rw [upd_same] at e ⊢; exact e
          · rw [upd_ne q] at e ⊢; exact F7.exB b o (by rw [upd_ne q]; exact e)
        · by_cases q : b = D
          · subst q; rw [dG] at e; cases e
          · rw [upd_ne q]; exact F7.exG b o e
        · by_cases q : b = D
          · subst q; exact .inr (.inl dG)
          · have z := F7.dis b; rw [upd_ne q] at z ⊢; exact z
        · have z := (F7.own a ha).1
          rw [upd_ne (hOD a ha)] at z ⊢
          exact z
    rcases hY i H2 y H3 hi yy with ⟨q1, d, hd, hrep⟩ | ⟨T, o, d, hT, q1, hd, hrep⟩
    · subst q1
      exact go d G' H3 hd e2 F2 hr (hrep.mono e2)
    · subst q1
      have hT' := (F2.fresh hT).2.1
      exact go d (upd G' T o) _ hd (e2.trans (Ex.new hT')) (F2.laid hT) (hr.mono (Ex.new hT')) (hrep G' e2 hT')
  · obtain ⟨G', xs, acc, ε, e2, F2, hr, hal, hI⟩ := pv
    have hx : H' D = some (.lst xs) := F2.exB D _ upd_same
    have dG : G' D = none := F2.disN upd_same (fun _ z => nomatch z)
    have hOD : D ∉ owned ε := fun ha => by
      have z := (F2.own D ha).1
      rw [upd_same] at z
      cases z
    have F3 : Frame c.K B G' H' σ ε := by
      refine ⟨fun b o e => ?_, F2.exG, fun b => ?_, F2.sl, fun a ha => ⟨?_, (F2.own a ha).2⟩, F2.nd⟩
      · by_cases q : b = D
        · subst q; rw [hB] at e; cases e
        · exact F2.exB b o (by rw [upd_ne q]; exact e)
      · by_cases q : b = D
        · subst q; exact .inl hB
        · have z := F2.dis b; rw [upd_ne q] at z; exact z
      · have z := (F2.own a ha).1
        rw [upd_ne (fun q => hOD (by rw [← q]; exact ha))] at z
        exact z
    exact k _ ε _ G' H' (w acc ε hal hI D) (e1.trans e2) F3 ⟨rfl, ⟨xs, hx, hr⟩, hB, dG, hOD⟩ fun hp => nomatch hp
end
end DL
namespace DL
open PySem PySem.Spec PyProof.Rows L2
section
variable {k : R → Prop} {x y : D} {z : Str} {b : Bool} {ch : Nat} {xs : List D}
theorem dEq_sI (e : sEq x y = some b) (h : k (.d (.bl b))) : dEqF id x y k := dEq_s e h
theorem dEq_sN (e : sEq x y = some b) (h : k (.d (.bl (!b)))) : dEqF not x y k := dEq_s e h
theorem dIn_sI (h : k (.d (.bl (decide (ch ∈ z.cps.toList))))) : dIn id (.str ⟨#[ch]⟩) (.str z) k := dIn_s h
theorem dIn_sN (h : k (.d (.bl (!decide (ch ∈ z.cps.toList))))) : dIn not (.str ⟨#[ch]⟩) (.str z) k := dIn_s h
theorem dIsN_I (h : k (.d (.bl (isNon x)))) : dIsN id x .non k := dIsN_ h
theorem dIsN_N (h : k (.d (.bl (!isNon x)))) : dIsN not x .non k := dIsN_ h
theorem dIsB_I {a b : Bool} (h : k (.d (.bl (decide (a = b))))) : dIsB id (.bl a) (.bl b) k := h
theorem dIsB_N {a b : Bool} (h : k (.d (.bl (!decide (a = b))))) : dIsB not (.bl a) (.bl b) k := h
end
theorem str_eq {x y : Str} (h : x.cps.toList = y.cps.toList) : x = y := by
  cases x; cases y
  simp only [Str.mk.injEq]
  exact Array.toList_inj.mp h
theorem one_str (ch c : Nat) : ((⟨#[ch]⟩ : Str) = ⟨#[c]⟩) ↔ ch = c := by
  constructor
  · intro h
    have h2 := congrArg (fun s : Str => s.cps.toList) h
    simpa using h2
  · rintro rfl; rfl
theorem find_none {z : Str} {ch : Nat} (h : ch ∉ z.cps.toList) : Txt.find z ⟨#[ch]⟩ = -1 := by
  have e := StrLaws.found_one z ch
  rw [decide_eq_false h] at e
  unfold Txt.find
  cases o : Builtin.Str.occurrences z ⟨#[ch]⟩ 0 z.length 1 with
  | nil => rfl
  | cons a r => rw [o] at e; cases e
theorem find_digit {ch : Nat} (h : 48 ≤ ch) (h2 : ch ≤ 57) : Txt.find (Str.ofString "0123456789") ⟨#[ch]⟩ = ((ch - 48 : Nat) : Int) := by
  have e : ∀ k, k < 10 → Txt.find (Str.ofString "0123456789") ⟨#[48 + k]⟩ = (k : Int) := by decide +kernel
  have z := e (ch - 48) (by omega)
  rw [show 48 + (ch - 48) = ch from by omega] at z
  exact z
theorem digits_mem {ch : Nat} : ch ∈ (Str.ofString "0123456789").cps.toList ↔ 48 ≤ ch ∧ ch ≤ 57 := by
  rw [show (Str.ofString "0123456789").cps.toList = [48, 49, 50, 51, 52, 53, 54, 55, 56, 57] from by decide +kernel]
  simp only [List.mem_cons, List.not_mem_nil, or_false]
  omega
theorem sIx_pos {n d : Nat} {v : Int} (h : 0 ≤ v) : HT.sIx n d (some v) = min v.toNat n := by
  show (if v < 0 then (v + (n : Int)).toNat else min v.toNat n) = _
  rw [if_neg (by omega)]
theorem cut0 {z : Str} {n : Int} (h : 0 ≤ n) : (cutS z none (some n)).cps.toList = z.cps.toList.take n.toNat := by
  unfold cutS
  rw [HT.sIx_none, sIx_pos h, Nat.sub_zero, List.drop_zero]
  show z.cps.toList.take (min n.toNat z.length) = _
  rw [show z.length = z.cps.toList.length from TL.len_tl z, ← List.take_eq_take_min]
theorem cut1 {z : Str} {n : Int} (h : 0 ≤ n) : (cutS z (some n) none).cps.toList = z.cps.toList.drop n.toNat := by
  unfold cutS
  rw [HT.sIx_none, sIx_pos h]
  show (z.cps.toList.drop (min n.toNat z.length)).take (z.length - min n.toNat z.length) = _
  rw [show z.length = z.cps.toList.length from TL.len_tl z, List.take_of_length_le (by rw [List.length_drop]; omega)]
  by_cases q : n.toNat ≤ z.cps.toList.length
  · rw [Nat.min_eq_left q]
  · rw [Nat.min_eq_right (by omega), List.drop_eq_nil_of_le (Nat.le_refl _), List.drop_eq_nil_of_le (by omega)]
theorem cutD0 {xs : List D} {n : Int} (h : 0 ≤ n) : cutD xs none (some n) = xs.take n.toNat := by
  unfold cutD
  rw [HT.sIx_none, sIx_pos h, Nat.sub_zero, List.drop_zero, ← List.take_eq_take_min]
theorem cutD1 {xs : List D} {n : Int} (h : 0 ≤ n) : cutD xs (some n) none = xs.drop n.toNat := by
  unfold cutD
  rw [HT.sIx_none, sIx_pos h, List.take_of_length_le (by rw [List.length_drop]; omega)]
  by_cases q : n.toNat ≤ xs.length
  · rw [Nat.min_eq_left q]
  · rw [Nat.min_eq_right (by omega), List.drop_eq_nil_of_le (Nat.le_refl _), List.drop_eq_nil_of_le (by omega)]
theorem fx : (fun x => false ^^ x) = id := by funext x; cases x <;> rfl
theorem tx : (fun x => true ^^ x) = not := by funext x; cases x <;> rfl
theorem opd_inI {c : Cd} : OpD c (rInA c.K) (dIn id) := by
  have h := opd_in (c := c)
  rw [fx] at h
  exact h
theorem opd_inN {c : Cd} : OpD c (rNotInA c.K) (dIn not) := by
  have h := opd_notIn (c := c)
  rw [tx] at h
  exact h
section
variable {c : Cd} {δ : List Sl} {r1 r2 : R} {x y : D} {T : String} {P : D → List D → Prop} {Q : Prop}
theorem ex_ty (h : view δ r1 = some x) (h2 : tyM T x) (q : Q) : (∃ x, view δ r1 = some x ∧ tyM T x) ∧ Q := ⟨⟨x, h, h2⟩, q⟩
theorem ex_vm0 (h : view δ r1 = some x) (q : P x []) : ∃ x ds, view δ r1 = some x ∧ views δ [] = some ds ∧ P x ds := ⟨x, [], h, rfl, q⟩
theorem ex_vm1 (h : view δ r1 = some x) (h2 : view δ r2 = some y) (q : P x [y]) : ∃ x ds, view δ r1 = some x ∧ views δ [r2] = some ds ∧ P x ds := ⟨x, [y], h, by unfold views; rw [h2]; rfl, q⟩
theorem ex_find {a b : Str} {P : Str → Str → Prop} (q : P a b) : ∃ a' b', D.str a = .str a' ∧ [D.str b] = [.str b'] ∧ P a' b' := ⟨a, b, rfl, rfl, q⟩
theorem ex_join {a : Str} {xs : List D} {ys : List Str} {P : Str → List Str → Prop} (h : strsD xs = some ys) (hl : (ys.map (·.length)).sum + ys.length * a.length ≤ 16777216) (q : P a ys) : ∃ a' xs' ys', D.str a = .str a' ∧ [D.lst xs] = [.lst xs'] ∧ strsD xs' = some ys' ∧ (ys'.map (·.length)).sum + ys'.length * a'.length ≤ 16777216 ∧ P a' ys' := ⟨a, xs, ys, rfl, rfl, h, hl, q⟩
end
end DL

/-! DL9: divmod, xs[::-1], find from a place. -/
namespace DL
open PySem PySem.Spec PyProof.Rows L2
open Evl (Ex)
section
variable {c : Cd} {p : Bool} {δ : List Sl} {te ta tb : TE}
def rDivmodA : List V → Hp → VK → Prop := fun xs H Q => ∃ i j, xs = [.int i, .int j] ∧ CDiv i j ∧ ∀ p, H p = none → Q (.ref p) (upd H p (.tup [.int (i / j), .int (i % j)]))
theorem call_divmodA {X : Cx} : CallR X (.builtin "divmod") rDivmodA := call_divmod
theorem cad_divmod : CaD c rDivmodA fun ds k => ∃ x y, ds = [x, y] ∧ ∃ i j, x = .int i ∧ y = .int j ∧ CDiv i j ∧ k (.d (.tup [.int (i / j), .int (i % j)])) := cad_two fun B G H σ δ r1 r2 v w x y Ψ Q F h1 h2 e1 e2 hf k => by
  obtain ⟨i, j, ex, ey, hc, q⟩ := hf
  subst ex ey
  have q1 := view_repH F h1 e1
  have q2 := view_repH F h2 e2
  unfold Rep at q1 q2
  subst q1 q2
  refine ⟨i, j, rfl, hc, fun p hp => ?_⟩
  have hG := (F.fresh hp).2.1
  exact k _ _ (upd G p _) _ q (Ex.new hG) (Ex.new hp) (F.laid hp) (rep_newT hG (reps_cons rep_int (reps_one rep_int)))
theorem we_revL {Φ : R → List Sl → Prop} (h : WE c p te δ fun r δ1 => ∃ xs, view δ1 (frz r) = some (.lst xs) ∧ ∀ a, Φ (.own a (.lst xs.reverse)) δ1) : WE c p (tRevL c.K te) δ Φ := by
  intro B G H σ Q F x k
  refine h B G H σ _ F x fun r1 δ1 v1 G1 H1 w1 e1 F1 rv1 p1 => ?_
  obtain ⟨G1', e1', F1', rw1⟩ := rv1.weak F1
  obtain ⟨xs, hv, w1⟩ := w1
  obtain ⟨a, vs, q1, q2, q3⟩ := view_lst F1' rw1 hv
  refine ⟨a, vs, q1, .inl q2, fun b hb => ?_⟩
  obtain ⟨f1, f2, f3⟩ := F1'.fresh hb
  exact k _ δ1 _ G1' _ (w1 b) (e1.trans e1') (F1'.ex (Ex.new hb)) ⟨rfl, ⟨vs.reverse, upd_same, reps_rev q3⟩, f1, f2, f3⟩ fun hp => ⟨(p1 hp).1, (p1 hp).2.trans (Ex.new hb)⟩
def rFind3A : V → List V → Hp → VK → Prop := fun x xs H Q => ∃ (a b : Str) (i : Int), x = .str a ∧ xs = [.str b, .int i] ∧ Q (.int (Txt.find3 a b i)) H
theorem mt_find3A {X : Cx} : MtR X "str.find" rFind3A := L2.mt_find3
theorem views_two {rs : List R} {K : PySem.W.Frag} {G : Hp} {vs : List V} {x y : D} (e : views δ rs = some [x, y]) (h : RVs K G rs vs) : ∃ r w r2 w2, rs = [r, r2] ∧ vs = [w, w2] ∧ view δ r = some x ∧ view δ r2 = some y ∧ RW K G r w ∧ RW K G r2 w2 := by
  cases rs with
  | nil => cases views_nil e
  | cons r2 rs =>
    obtain ⟨x', es, e3, e4, e5⟩ := views_cons e
    cases e3
    obtain ⟨w, wr, e6, h3, h4⟩ := h
    obtain ⟨r, w', er, ew, e7, h5⟩ := views_one (r2 := r2) e5 h4
    subst er ew
    exact ⟨r2, w, r, w', rfl, e6, e4, e7, h3, h5⟩
theorem med_find3 : MeD c rFind3A fun x ds k => ∃ (a b : Str) (i : Int), x = .str a ∧ ds = [.str b, .int i] ∧ k (.d (.int (Txt.find3 a b i))) := by
  intro B G H σ δ r1 rs v vs x ds Ψ Q F h1 hr e1 e2 hf k
  obtain ⟨a, b, i, ex, ed, q⟩ := hf
  subst ex ed
  have q1 := view_repH F h1 e1
  unfold Rep at q1
  obtain ⟨r, w, r2, w2, er, ev, e4, e5, h3, h4⟩ := views_two e2 hr
  subst er ev
  have q2 := view_repH F h3 e4
  have q3 := view_repH F h4 e5
  unfold Rep at q2 q3
  subst q2 q3
  exact ⟨a, b, i, q1, rfl, k _ _ G H q (Ex.refl G) (Ex.refl H) F (rep_int (K := c.K) (G := G))⟩
theorem ex_find3 {a b : Str} {i : Int} {P : Str → Str → Int → Prop} (q : P a b i) : ∃ a' b' i', D.str a = .str a' ∧ [D.str b, D.int i] = [.str b', .int i'] ∧ P a' b' i' := ⟨a, b, i, rfl, rfl, q⟩
theorem ex_vm2 {r1 r2 r3 : R} {x y z : D} {P : D → List D → Prop} (h : view δ r1 = some x) (h2 : view δ r2 = some y) (h3 : view δ r3 = some z) (q : P x [y, z]) : ∃ x ds, view δ r1 = some x ∧ views δ [r2, r3] = some ds ∧ P x ds := ⟨x, [y, z], h, by unfold views; rw [h2]; unfold views; rw [h3]; rfl, q⟩
theorem ex_divmod {i j : Int} {P : Int → Int → Prop} (h : CDiv i j) (q : P i j) : ∃ x y, [D.int i, D.int j] = [x, y] ∧ ∃ i' j', x = .int i' ∧ y = .int j' ∧ CDiv i' j' ∧ P i' j' := ⟨_, _, rfl, i, j, rfl, rfl, h, q⟩
theorem ex_rev {r1 : R} {xs : List D} {P : List D → Prop} (h : view δ r1 = some (.lst xs)) (q : P xs) : ∃ xs, view δ r1 = some (.lst xs) ∧ P xs := ⟨xs, h, q⟩
theorem dIntC_b {b : Bool} {k : R → Prop} (h : k (.d (.int (if b = true then 1 else 0)))) : dIntC (.bl b) k := h
theorem dIntC_s {z : Str} {n : Int} {k : R → Prop} (h1 : PySem.intText? z = some n) (h2 : z.length ≤ 640) (h : k (.d (.int n))) : dIntC (.str z) k := ⟨n, h1, h2, h⟩
theorem ex_ownl {i : Nat} {a : Addr} {ds : List D} {Q : Prop} (h : δ[i]? = some (.own a (.lst ds))) (q : Q) : (∃ ds, δ[i]? = some (.own a (.lst ds))) ∧ Q := ⟨⟨ds, h⟩, q⟩
theorem wg_mono {g : TG} {r : R} {Φ Φ' : List Sl → Prop} (h : WG c g r δ Φ) (m : ∀ δ', Φ δ' → Φ' δ') : WG c g r δ Φ' := fun B G H σ v Q F xr rv k =>
  h B G H σ v Q F xr rv fun δ1 σ1 G1 H1 w => k δ1 σ1 G1 H1 (m δ1 w)
theorem wg_tup2 {g1 g2 : TG} {x y : D} {Φ : List Sl → Prop} (h : WG c g1 (.d x) δ fun δ1 => WG c g2 (.d y) δ1 Φ) : WG c (gTup c.K 2 (gCons g1 (gCons g2 gNil))) (.d (.tup [x, y])) δ Φ :=
  wg_tup rfl (wgs_cons (wg_mono h fun δ1 q => wgs_cons (wg_mono q fun δ2 q2 => wgs_nil q2)))
theorem wg_tup3 {g1 g2 g3 : TG} {x y z : D} {Φ : List Sl → Prop} (h : WG c g1 (.d x) δ fun δ1 => WG c g2 (.d y) δ1 fun δ2 => WG c g3 (.d z) δ2 Φ) : WG c (gTup c.K 3 (gCons g1 (gCons g2 (gCons g3 gNil)))) (.d (.tup [x, y, z])) δ Φ :=
  wg_tup rfl (wgs_cons (wg_mono h fun δ1 q => wgs_cons (wg_mono q fun δ2 q2 => wgs_cons (wg_mono q2 fun δ3 q3 => wgs_nil q3))))
end
end DL

/-! DL10: defs called where no repr is under way: what repr of lists and tuples wants to know. -/
namespace DL
open PySem PySem.Spec PyProof.Rows L2
open Evl (Ex)
/-- nothing is being shown; the table of modules is a dict -/
def GOk (base : Heap) (A : Around) : Prop := A.guards = some [] ∧ ∃ o es ep, base.get? sysModules = some o ∧ o.data = .dict es ep
/-- a def's promise where nothing is being shown -/
structure FnG (P : Program) (w : World) (K : PySem.W.Frag) (mg : Str → Option Value) (base : Heap) (CX : CXT) (k : Nat) (f : Addr) (fd : FuncData) (ps : List Str) (sp : Sp) : Prop where
  len : ∀ vs H Q E, sp vs H Q E → vs.length = ps.length
  run : ∀ (A : Around) (outer : List Env) (s : Shared) (H : Hp) (args : Args) (us : List Value) (vs : List V) (Q : VK) (E : XK), GOk base A → Room k A → Env0 P w K mg base A outer s H →
    BindsTo s fd args (ps.zip us) → Vals vs us → sp vs H Q E → codeAny (model P w) A (.call (.ref f) args) (CR CX outer P w H s Q E) s
section
variable {CX : CXT} {P : Program} {w : World} {K : PySem.W.Frag} {mg : Str → Option Value} {base : Heap}
theorem FnG.up {j k : Nat} {f : Addr} {fd : FuncData} {ps : List Str} {sp : Sp} (F : FnG P w K mg base CX j f fd ps sp) (h : j ≤ k) : FnG P w K mg base CX k f fd ps sp :=
  { len := F.len, run := fun A o s H a us vs Q E g r => F.run A o s H a us vs Q E g (r.mono h) }
theorem fnG_of {k : Nat} {f : Addr} {name qual : Str} {params : Arguments} {body : List Stmt} {scope : Scope} {dV kV doc pm cdv ct oc : Value} {an od : Option Addr} {osl : Array (Option Value)} {N ps : List Str} {sp : Sp}
    (lk : K.lookup f = some ⟨oc, od, .func (PySem.W.fnOf name qual params body scope dV kV doc pm an cdv ct), osl⟩) (hcd : PySem.W.codeIn K cdv qual = true) (S : FnScope N ps scope) (len : ∀ vs H Q E, sp vs H Q E → vs.length = ps.length)
    (hb : ∀ (A : Around) (outer : List Env) (s : Shared) (H : Hp) (vs : List V) (Q : VK) (E : XK), GOk base A → Room k (A.deeper (envOfC qual scope s.heap.objs.size f cdv)) → sp vs H Q E →
      ∃ t, PSs (cxOf CX P w K mg base N qual scope f cdv A outer s H E) body t ∧ t { nx := fun _ H' => Q .non H', rt := Q } (L2.start N vs) H) :
    FnG P w K mg base CX (k + 1) f (PySem.W.fnOf name qual params body scope dV kV doc pm an cdv ct) ps sp where
  len := len
  run := by
    intro A outer s H args us vs Q E gA room env bind rel wish
    have keep : ∀ b o, base.get? b = some o → s.heap.get? b = some o := fun b o e => (env.bs b o e).1
    have inK := env.mod.kin.keeps keep
    have many := len vs H Q E wish
    obtain ⟨t, ht, run⟩ := hb A outer s H vs Q E gA (room.deeper _) wish
    refine codeAny_call_function room.depth (inK f _ lk) rfl S.co S.gen rfl (PySem.W.codeRec_of inK hcd) (bind _ _ _ _ (wpAny_newFunctionEnv_cells S.kind (fun y hy => ?_) fun env' he s1 x => ?_))
    · obtain ⟨yn, yv⟩ := y
      cases S.par yn (List.of_mem_zip hy).1 with
      | inl q => exact .inl q
      | inr q => exact .inr ⟨q, PySem.W.cellsFrom_some _ _ _ (.inl q)⟩
    · subst he
      refine ⟨(env.mod.nolimit.keeps keep).keeps x.toInCall.keep, codeAny_func (wpAny_mono (ht.run [] s1 (L2.start N vs) H _ (inv_start S room.hd env many rel x) run) (fun fl s' hs => ?_) fun _ _ q => q)⟩
      cases fl with
      | ret u => exact let ⟨v, _, H', J, rv, q⟩ := hs; ⟨v, H', J.os, J.bare, J.base, J.hok, rv, q⟩
      | next => exact let ⟨_, H', J, q⟩ := hs; ⟨.non, H', J.os, J.bare, J.base, J.hok, rfl, q⟩
      | brk => exact (let ⟨_, _, _, q⟩ := hs; q : False).elim
      | cont => exact (let ⟨_, _, _, q⟩ := hs; q : False).elim
theorem okG {x qual : Str} {st : Stmt} {f : Addr} {fd : FuncData} {N ps : List Str} {k : Nat} {sp : Sp} (F : Fun K x qual st f fd) (S : FnScope N ps (defScope st)) (len : ∀ vs H Q E, sp vs H Q E → vs.length = ps.length)
    (hb : ∀ (cdv : Value) (A : Around) (outer : List Env) (s : Shared) (H : Hp) (vs : List V) (Q : VK) (E : XK), GOk base A → Room k (A.deeper (envOfC qual (defScope st) s.heap.objs.size f cdv)) → sp vs H Q E →
      ∃ t, PSs (cxOf CX0 P w K mg base N qual (defScope st) f cdv A outer s H E).nox (defBody st) t ∧ t { nx := fun _ H' => Q .non H', rt := Q } (L2.start N vs) H) : FnG P w K mg base CX0 (k + 1) f fd ps sp := by
  obtain ⟨_, _, _, _, _, _, cdv, _, _, e, lk, hcd⟩ := F.ex
  subst e
  exact fnG_of lk hcd S len fun A outer s H vs Q E g r q => let ⟨t, h1, h2⟩ := hb cdv A outer s H vs Q E g r q; ⟨t, h1.nox, h2⟩
end
section
variable {X : Cx} {CX : CXT} {k : Nat} {f : Addr} {fd : FuncData} {ps : List Str} {sp : Sp} {dvs : List V} {ds : List Value} {E : XK} {x : Str} {p pos : Pos} {e : Expr} {es : List Expr} {t : TA}
theorem runG {pins : List (Addr × Obj)} {σ : L2.St} {H : Hp} {s : Shared} {Q : VK} {us : List Value} {vs : List V} (F : FnG X.prog X.w X.K X.mg X.base CX k f fd ps sp) (g : GOk X.base X.A) (hr : Room k X.A) (hb : Binds X.K fd ps ds) (hd : Vals dvs ds) (hx : Passes CX X E)
    (I : Inv X pins σ H s) (r : Vals vs us) (h : sp (vs ++ dvs) H Q E) : wpAny (model X.prog X.w) X.A (call (.ref f) us) (EP X pins σ Q) X.xe s := by
  have r2 := r.append hd
  have many : (us ++ ds).length = ps.length := by rw [← F.len _ _ _ _ h, r2.length]
  have go := F.run X.A X.stack s H ⟨us, []⟩ (us ++ ds) (vs ++ dvs) Q E g hr I.env0 (hb s us I.kIn many) r2 h
  refine wpAny_call (codeAny_mono go fun res s' q => ?_)
  match res, q with
  | .error ex, q => exact hx pins σ H s ex s' I q
  | .ok (.ret u), q => exact I.after q
theorem pe_callG (F : FnG X.prog X.w X.K X.mg X.base CX k f fd ps sp) (g : GOk X.base X.A) (hr : Room k X.A) (hg : Gl X x) (hm : X.mg x = some (.ref f)) (hk : PySem.W.keepIn X.K (.ref f) = true) (hb : Binds X.K fd ps ds) (hd : Vals dvs ds) (hx : Passes CX X E)
    (ha : PA X (e :: es) t) (hdb : (x == ("__debug__" : Str)) = false := by decide) (he : starEach (e :: es) X.env = (false, eval e X.env) :: starEach es X.env := by rfl) (hpl : (backTo pos (starEach es X.env)).any (·.1) = false := by rfl) : PE X (.Call (.Name x p) (e :: es) [] pos) (tCall sp dvs E t) := by
  constructor
  intro pins s σ H Q I h
  exact wpAny_Call_Name_kw (ld_glob I hg hm (PySem.W.callWith_K (h₀ := X.base) I.ok.mod.kin hk (thn (ha.run pos pins s σ H _ I h) fun us s1 ⟨vs, H1, I1, r, q⟩ => ⟨I1.kIn, runG F g hr hb hd hx I1 r q⟩) he hpl) hdb)
theorem pe_callG0 (F : FnG X.prog X.w X.K X.mg X.base CX k f fd ps sp) (g : GOk X.base X.A) (hr : Room k X.A) (hg : Gl X x) (hm : X.mg x = some (.ref f)) (hk : PySem.W.keepIn X.K (.ref f) = true) (hb : Binds X.K fd ps ds) (hd : Vals dvs ds) (hx : Passes CX X E)
    (hdb : (x == ("__debug__" : Str)) = false := by decide) : PE X (.Call (.Name x p) [] [] pos) (tCall sp dvs E tNil) := by
  constructor
  intro pins s σ H Q I h
  exact wpAny_Call_Name_kw (ld_glob I hg hm (PySem.W.callWith_K0 I.kIn hk (runG (us := []) F g hr hb hd hx I .nil h)) hdb)
end
/-! ### the head -/
theorem ns_dict {h : Heap} (x : ∃ mm, h.Ns sysModules mm ∧ mm "_pylong" = none) : ∃ o es ep, h.get? sysModules = some o ∧ o.data = .dict es ep := by
  obtain ⟨mm, ⟨o, es, ep, e, d, _⟩, _⟩ := x
  exact ⟨o, es, ep, e, d⟩
section
variable {P : Program} {w : World} {K : PySem.W.Frag} {mg mb : Str → Option Value} {CX : CXT} {k : Nat} {fa a : Addr} {fd : FuncData} {x : Str} {sp : Sp} {s₁ : Shared} {vs : List Value} {ns : List Int}
/-- what is asked behind the call -/
abbrev Told (s₁ : Shared) (r : Result) (s' : Shared) : Prop := r = .ok (.ret (.bool true)) ∧ OldK s₁.heap s'.heap ∧ s'.os = s₁.os ∧ AllBare s'.gens
/-- from a heap of ours in which at most the script is tracked -/
theorem head_at (H : Hp) (KX : K.In s₁.heap) (hns : s₁.heap.Ns mainGlobals mg) (hb : s₁.heap.Ns builtinsNs mb) (hbb : ∀ x : Str, x ≠ "__name__" → mb x = bootBuiltins x) (hlim : s₁.heap.NoLimit) (hg : s₁.gens = #[])
    (ha : s₁.heap.get? a = some { cls := .type "list", data := .seq vs.toArray }) (hr : Room k callerA)
    (hsm : ∃ o es ep, s₁.heap.get? sysModules = some o ∧ o.data = .dict es ep) (F : ∀ base : Heap, K.In base → base.Ns mainGlobals mg → FnG P w K mg base CX k fa fd [x] sp) (hbind : ∀ (s : Shared) (u : Value), BindsTo s fd ⟨[u], []⟩ [(x, u)])
    (hCX : ∀ H e s', CX [] H s₁ (fun _ _ _ => False) e s' → False) (hO : Only H) (hok : HOk P w H s₁.heap) (hA : ∀ b, H b ≠ none → b = a) (hK : H a ≠ none → K.lookup a = none)
    (hS : sp [.ref a] H (fun v _ => v = .bl true) fun _ _ _ => False) : codeAny (model P w) callerA (.call (.ref fa) ⟨[.ref a], []⟩) (Told s₁) s₁ := by
  have at_a : ∀ {b : Addr}, H b ≠ none → ∀ {o : Obj}, s₁.heap.get? b = some o → o = { cls := .type "list", data := .seq vs.toArray } := fun {b} z {o} e => by
    rw [hA b z, ha] at e
    exact (Option.some.inj e).symm
  have dict_none : ∀ {b : Addr} {o : Obj} {es : Array DictEntry} {ep : Nat}, s₁.heap.get? b = some o → o.data = .dict es ep → H b = none := fun e d => Classical.byContradiction fun z => by
    rw [at_a z e] at d
    cases d
  have ns_hid : ∀ {b : Addr} {m : Str → Option Value}, s₁.heap.Ns b m → (hidT s₁.heap H).Ns b m := fun h => by
    obtain ⟨o, es, ep, e, d, r⟩ := h
    exact ⟨o, es, ep, hidT_get e (dict_none e d), d, r⟩
  have k_hid : K.In (hidT s₁.heap H) := fun b o e => hidT_get (KX b o e) (Classical.byContradiction fun z => by
    have q := hA b z
    subst q
    rw [hK z] at e
    cases e)
  obtain ⟨mc, l1, l2⟩ := hlim
  have m_hid : ∃ o es ep, (hidT s₁.heap H).get? sysModules = some o ∧ o.data = .dict es ep := by
    obtain ⟨o, es, ep, e, d⟩ := hsm
    exact ⟨o, es, ep, hidT_get e (dict_none e d), d⟩
  have env : Env0 P w K mg (hidT s₁.heap H) callerA [] s₁ H :=
    { frames := rfl, mod := ⟨k_hid, ns_hid hns, ⟨mb, ns_hid hb, hbb⟩, ⟨mc, ns_hid l1, l2⟩⟩, bs := fun b o e => of_hidT e, bsz := Nat.le_of_eq (hidT_size _ _), funs := trivial, frf := fun b z => (nomatch z), hok := hok, bare := .of_eq hg }
  refine codeAny_mono ((F _ k_hid (ns_hid hns)).run callerA [] s₁ H ⟨[.ref a], []⟩ [.ref a] [.ref a] _ _ ⟨rfl, m_hid⟩ hr env (hbind s₁ (.ref a)) (.cons rfl .nil) hS) fun r s' h => ?_
  match r, h with
  | .error e, h => exact (hCX H e s' h).elim
  | .ok (.ret u), h =>
    obtain ⟨v, H', eo, br, un, hok', rv, q⟩ := h
    subst q
    have eu : u = Value.bool true := rv
    subst eu
    refine ⟨rfl, OldK.of_keep fun b o e => ?_, eo, br⟩
    rcases hO b with z | ⟨ob, xs, z⟩
    · exact un.keep b o e z (fun z => nomatch z) (fun z => nomatch z)
    · have e1 := (hok b _ z).1
      have e2 := (hok' b _ (un.frzs b ob _ z)).1
      rw [e] at e1
      rw [e2, e1]
theorem law_callG (KX : K.In s₁.heap) (hns : s₁.heap.Ns mainGlobals mg) (hb : s₁.heap.Ns builtinsNs mb) (hbb : ∀ x : Str, x ≠ "__name__" → mb x = bootBuiltins x) (hlim : s₁.heap.NoLimit) (hg : s₁.gens = #[])
    (ha : s₁.heap.get? a = some { cls := .type "list", data := .seq vs.toArray }) (hi : IntsAre vs ns) (hl : ns.length ≤ sizeLine) (hr : Room k callerA)
    (hsm : ∃ o es ep, s₁.heap.get? sysModules = some o ∧ o.data = .dict es ep) (F : ∀ base : Heap, K.In base → base.Ns mainGlobals mg → FnG P w K mg base CX k fa fd [x] sp) (hbind : ∀ (s : Shared) (u : Value), BindsTo s fd ⟨[u], []⟩ [(x, u)])
    (hsp : ∀ H : Hp, Only H → SqL K H a (ns.map V.int) → sp [.ref a] H (fun v _ => v = .bl true) fun _ _ _ => False)
    (hCX : ∀ H e s', CX [] H s₁ (fun _ _ _ => False) e s' → False) : codeAny (model P w) callerA (.call (.ref fa) ⟨[.ref a], []⟩) (Told s₁) s₁ := by
  have rel := vals_ints hi
  cases look : K.lookup a with
  | some o =>
    have same := KX a o look
    rw [ha] at same
    cases same
    have hO : Only fun _ => none := fun _ => .inl rfl
    exact head_at (fun _ => none) KX hns hb hbb hlim hg ha hr hsm F hbind hCX hO (fun _ _ z => nomatch z) (fun _ z => absurd rfl z) (fun z => absurd rfl z)
      (hsp _ hO (.inr ⟨_, vs.toArray, _, look, rfl, rfl, rfl, by rw [List.size_toArray, hi.length]; exact hl, by simpa using rel⟩))
  | none =>
    let obj : Obj := { cls := .type "list", data := .seq vs.toArray }
    let H : Hp := fun b => if b = a then some (.frz obj (.lst (ns.map V.int))) else none
    have at_a : H a = some (.frz obj (.lst (ns.map V.int))) := if_pos rfl
    have off : ∀ {b}, b ≠ a → H b = none := fun z => if_neg z
    have hO : Only H := fun b => by
      by_cases z : b = a
      · rw [z]; exact .inr ⟨_, _, at_a⟩
      · exact .inl (off z)
    refine head_at H KX hns hb hbb hlim hg ha hr hsm F hbind hCX hO (fun b u z => ?_) (fun b z => Classical.byContradiction fun q => z (off q)) (fun _ => look) (hsp _ hO (.inl (.inr ⟨_, at_a⟩)))
    by_cases q : b = a
    · subst q
      rw [at_a] at z
      cases z
      exact ⟨ha, by rw [List.length_map]; exact hl, vs, _, rel, ha⟩
    · rw [off q] at z
      cases z
end
theorem walk_ofG {l : PySem.W.OpenLaw} {n k : Nat} {q : Program} {loose : List Str} {XP : (Str → Option Value) → Heap → Prop} {YP : World → Heap → Prop} {d : DefRec} {K : Params → PySem.W.Frag} {CX : World → CXT} {sp : World → Sp} {x : Str}
    (hq : importsNone q = true) (hn : l.most = some n) (hn2 : n ≤ sizeLine) (hdf : d.params.defaults = []) (hr : Room k callerA) (hY : ∀ (w : World) (h : Heap), YP w h → (K w.params).In h)
    (F : ∀ (w : World) (mg : Str → Option Value) (fa : Addr) (h : Heap), (K w.params).In h → h.Ns mainGlobals mg → mg d.name = some (.ref fa) →
      ∃ fd : FuncData, (∀ (s : Shared) (u : Value), BindsTo s fd ⟨[u], []⟩ [(x, u)]) ∧ ∀ base : Heap, (K w.params).In base → base.Ns mainGlobals mg → FnG l.prog w (K w.params) mg base (CX w) k fa fd [x] (sp w))
    (hsp : ∀ (w : World) (H : Hp) (a : Addr) (ns : List Int), ns.length ≤ n → (∀ z ∈ ns, Builtin.Int.intBits z ≤ 1048576) → Only H → SqL (K w.params) H a (ns.map V.int) → sp w [.ref a] H (fun v _ => v = .bl true) fun _ _ _ => False)
    (hCX : ∀ (w : World) (H : Hp) (s : Shared) (e : Value) (s' : Shared), CX w [] H s (fun _ _ _ => False) e s' → False) : PySem.W.WalkO q loose XP YP l.row.toRowW d [] (fun f vs => PySem.call f vs) :=
  Att.attach_callB hn hdf fun w s₀ s₁ mg mb fa o pm cd doc a vs ns G Y _ _ _ hmg hobj hints hlen hbits hg =>
    let ⟨_, hb, hF⟩ := F w mg fa _ (hY w _ Y) G.T.g hmg
    law_callG (hY w _ Y) G.T.g G.T.b G.T.builtins G.T.nolimit hg hobj hints (Nat.le_trans hlen hn2) hr (ns_dict (G.T.seer hq).mods) hF hb (fun H hO hS => hsp w H a ns hlen hbits hO hS) fun H e s' => hCX w H s₁ e s'
end DL
namespace DL
open PySem PySem.Spec PyProof.Rows L2
open Evl (Ex)
end DL

/-! DL11: repr of data, dicts among them. -/
namespace DL
open PySem PySem.Spec PyProof.Rows L2
open Evl (Ex)
def keyPy : Key → PyData
  | .inl i => .int i
  | .inr x => .str x
mutual
def pyA : D → Option PyData
  | .non => some .none
  | .bl b => some (.bool b)
  | .int i => some (.int i)
  | .str x => some (.str x)
  | .lst xs => (pyAs xs).map .list
  | .tup xs => (pyAs xs).map .tuple
  | .dct kvs => (pyAk kvs).map .dict
  | _ => none
def pyAs : List D → Option (List PyData)
  | [] => some []
  | x :: xs => match pyA x with
    | some d => (pyAs xs).map (d :: ·)
    | none => none
def pyAk : List (Key × D) → Option (List (PyData × PyData))
  | [] => some []
  | (k, x) :: xs => match pyA x with
    | some d => (pyAk xs).map ((keyPy k, d) :: ·)
    | none => none
end
section
variable {X : Cx} {pins : List (Addr × Obj)} {σ : L2.St} {H : Hp} {s : Shared}
theorem rd_ok (I : Inv X pins σ H s) {a : Addr} {kvs : List (Key × V)} (ha : Rd H a (.dK kvs)) : ObjOk X.prog X.w H s.heap a (.dK kvs) := by
  rcases ha with ha | ⟨ob, ha⟩
  · exact I.hok a _ ha
  · exact (I.hok a _ ha).2
theorem keys_read {knd : KeyKind X.prog X.w Key} (hk : ∀ k v, knd.is k v = keyIs k v) {h : Heap} : ∀ {es : List DictEntry} {vs : List (Key × Value)}, Pairs knd es vs → ReadsAll h (es.map (·.key)) (vs.map fun p => keyPy p.1) []
  | [], _, p => by cases p; exact .nil
  | e :: es, _, p => by
    cases p with
    | @cons _ kv _ kvs q1 q2 q3 =>
      rw [hk] at q1
      obtain ⟨k, v⟩ := kv
      have r := keys_read hk (h := h) q3
      have one : Reads h e.key (keyPy k) [] := by
        rcases keyIs_shape q1 with ⟨i, t, e1, e2⟩ | ⟨x, t, e1, e2⟩
        · have e1 : k = .inl i := e1
          subst e1; rw [e2]; exact .int i t
        · have e1 : k = .inr x := e1
          subst e1; rw [e2]; exact .str x t
      exact ReadsAll.cons (as := []) one r
theorem vals_read {knd : KeyKind X.prog X.w Key} : ∀ {es : List DictEntry} {vs : List (Key × Value)}, Pairs knd es vs → es.map (·.val) = vs.map (·.2)
  | [], _, p => by cases p; rfl
  | e :: es, _, p => by
    cases p with
    | @cons _ kv _ kvs q1 q2 q3 =>
      simp only [List.map_cons]
      rw [q2, vals_read q3]
theorem kv_keys : ∀ {kvs : List (Key × V)} {vs : List (Key × Value)}, KV kvs vs → vs.map (fun p => keyPy p.1) = kvs.map (fun p => keyPy p.1)
  | _, _, .nil => rfl
  | _, _, .cons (a := a) (b := b) h1 h2 => by
    simp only [List.map_cons]
    rw [kv_keys h2, h1.1]
theorem pyAk_keys {K : PySem.W.Frag} {G : Hp} : ∀ {kds : List (Key × D)} {kvs : List (Key × V)} {ds : List (PyData × PyData)}, pyAk kds = some ds → RepK K G kds kvs → ds.map (·.1) = kvs.map (fun p => keyPy p.1)
  | [], kvs, ds, e, h => by
    unfold pyAk at e
    unfold RepK at h
    subst h
    cases e
    rfl
  | (k, x) :: kds, kvs, ds, e, h => by
    unfold pyAk at e
    unfold RepK at h
    obtain ⟨v, vr, e1, h1, h2⟩ := h
    subst e1
    cases e2 : pyA x with
    | none => rw [e2] at e; cases e
    | some d =>
      rw [e2] at e
      cases e3 : pyAk kds with
      | none => rw [e3] at e; cases e
      | some r =>
        rw [e3] at e
        cases e
        simp only [List.map_cons]
        rw [pyAk_keys e3 h2]
mutual
theorem rep_reads (I : Inv X pins σ H s) (m : ∃ o es ep, X.base.get? sysModules = some o ∧ o.data = .dict es ep) : ∀ (x : D) (v : V) (u : Value) (d : PyData), pyA x = some d → Rep X.K H x v → RelV v u → ∃ as, Reads s.heap u d as ∧ sysModules ∉ as
  | .non, v, u, d, e, h, r => by unfold Rep at h; unfold pyA at e; subst h; cases e; cases r; exact ⟨_, .none, by simp⟩
  | .bl b, v, u, d, e, h, r => by unfold Rep at h; unfold pyA at e; subst h; cases e; cases r; exact ⟨_, .bool b, by simp⟩
  | .int i, v, u, d, e, h, r => by unfold Rep at h; unfold pyA at e; subst h; cases e; obtain ⟨t, rfl⟩ := r; exact ⟨_, .int i t, by simp⟩
  | .str z, v, u, d, e, h, r => by unfold Rep at h; unfold pyA at e; subst h; cases e; obtain ⟨t, rfl⟩ := r; exact ⟨_, .str z t, by simp⟩
  | .ty _, _, _, _, e, _, _ => by unfold pyA at e; cases e
  | .ptr _, _, _, _, e, _, _ => by unfold pyA at e; cases e
  | .ro _, _, _, _, e, _, _ => by unfold pyA at e; cases e
  | .obj _ _, _, _, _, e, _, _ => by unfold pyA at e; cases e
  | .dcT _, _, _, _, e, _, _ => by unfold pyA at e; cases e
  | .lst xs, v, u, d, e, h, r => by
    unfold Rep at h
    unfold pyA at e
    obtain ⟨a, vs, e1, h1, h2⟩ := h
    subst e1
    cases e2 : pyAs xs with
    | none => rw [e2] at e; cases e
    | some ds =>
      rw [e2] at e
      cases e
      cases r
      obtain ⟨its, rv, ⟨o, n, ho, hc, _, hd⟩, _⟩ := I.list (.inl (Rd.of h1))
      obtain ⟨as, hr, hn⟩ := reps_reads I m xs vs its ds e2 h2 rv
      refine ⟨_, Reads.list ho hc hd hr, fun hm => ?_⟩
      rcases List.mem_cons.mp hm with q | q
      · obtain ⟨o', es, ep, m1, m2⟩ := m
        have z := I.bk _ _ m1
        rw [q, ho] at z
        cases z
        rw [hd] at m2
        cases m2
      · exact hn q
  | .tup xs, v, u, d, e, h, r => by
    unfold Rep at h
    unfold pyA at e
    obtain ⟨a, vs, e1, h1, h2⟩ := h
    subst e1
    cases e2 : pyAs xs with
    | none => rw [e2] at e; cases e
    | some ds =>
      rw [e2] at e
      cases e
      cases r
      obtain ⟨its, rv, ⟨o, ho, hc, n, hd⟩, _⟩ := I.tuple (SqT.of h1)
      obtain ⟨as, hr, hn⟩ := reps_reads I m xs vs its ds e2 h2 rv
      exact ⟨_, Reads.tuple ho hc hd hr, hn⟩
  | .dct kds, v, u, d, e, h, r => by
    unfold Rep at h
    unfold pyA at e
    obtain ⟨a, kvs, e1, h1, h2⟩ := h
    subst e1
    cases e2 : pyAk kds with
    | none => rw [e2] at e; cases e
    | some ds =>
      rw [e2] at e
      cases e
      cases r
      obtain ⟨_, hsys, vs, hkv, o, es, ep, ho, hx, hd, hk, hp, hn⟩ := rd_ok I h1
      obtain ⟨bs, hr, hn2⟩ := repk_reads I m kds kvs vs ds e2 h2 hkv
      have k1 := keys_read (knd := mixKind X.prog X.w) (fun _ _ => rfl) (h := s.heap) hp
      rw [kv_keys hkv, ← pyAk_keys e2 h2] at k1
      rw [← vals_read hp] at hr
      refine ⟨_, Reads.dict ho hx.1 hd k1 hr, fun hm => ?_⟩
      rcases List.mem_cons.mp (show sysModules ∈ a :: bs from hm) with q | q
      · rw [← q] at hsys
        simp at hsys
      · exact hn2 q
theorem reps_reads (I : Inv X pins σ H s) (m : ∃ o es ep, X.base.get? sysModules = some o ∧ o.data = .dict es ep) : ∀ (xs : List D) (vs : List V) (us : List Value) (ds : List PyData), pyAs xs = some ds → Reps X.K H xs vs → Vals vs us → ∃ as, ReadsAll s.heap us ds as ∧ sysModules ∉ as
  | [], vs, us, ds, e, h, r => by
    unfold Reps at h
    unfold pyAs at e
    subst h
    cases e
    cases r
    exact ⟨_, .nil, by simp⟩
  | x :: xs, vs, us, ds, e, h, r => by
    unfold Reps at h
    unfold pyAs at e
    obtain ⟨v, vr, e1, h1, h2⟩ := h
    subst e1
    cases e2 : pyA x with
    | none => rw [e2] at e; cases e
    | some d =>
      rw [e2] at e
      cases e3 : pyAs xs with
      | none => rw [e3] at e; cases e
      | some ds =>
        rw [e3] at e
        cases e
        cases r with
        | cons r1 r2 =>
          obtain ⟨as, q1, n1⟩ := rep_reads I m x v _ d e2 h1 r1
          obtain ⟨bs, q2, n2⟩ := reps_reads I m xs vr _ ds e3 h2 r2
          exact ⟨_, .cons q1 q2, fun hm => (List.mem_append.mp hm).elim n1 n2⟩
theorem repk_reads (I : Inv X pins σ H s) (m : ∃ o es ep, X.base.get? sysModules = some o ∧ o.data = .dict es ep) : ∀ (xs : List (Key × D)) (kvs : List (Key × V)) (vs : List (Key × Value)) (ds : List (PyData × PyData)), pyAk xs = some ds → RepK X.K H xs kvs → KV kvs vs → ∃ as, ReadsAll s.heap (vs.map (·.2)) (ds.map (·.2)) as ∧ sysModules ∉ as
  | [], kvs, vs, ds, e, h, r => by
    unfold RepK at h
    unfold pyAk at e
    subst h
    cases e
    cases r
    exact ⟨_, .nil, by simp⟩
  | (k, x) :: xs, kvs, vs, ds, e, h, r => by
    unfold RepK at h
    unfold pyAk at e
    obtain ⟨v, vr, e1, h1, h2⟩ := h
    subst e1
    cases e2 : pyA x with
    | none => rw [e2] at e; cases e
    | some d =>
      rw [e2] at e
      cases e3 : pyAk xs with
      | none => rw [e3] at e; cases e
      | some ds =>
        rw [e3] at e
        cases e
        cases r with
        | cons r1 r2 =>
          obtain ⟨as, q1, n1⟩ := rep_reads I m x v _ d e2 h1 r1.2
          obtain ⟨bs, q2, n2⟩ := repk_reads I m xs vr _ ds e3 h2 r2
          exact ⟨_, .cons q1 q2, fun hm => (List.mem_append.mp hm).elim n1 n2⟩
end
end
def rReprD (K : PySem.W.Frag) : List V → Hp → VK → Prop := fun xs H Q => ∃ v x d, xs = [v] ∧ Rep K H x v ∧ pyA x = some d ∧ d.showable = true ∧ d.shown.length ≤ 16000000 ∧ d.depth ≤ 50 ∧ Q (.str d.shown) H
theorem call_reprD {X : Cx} (g : GOk X.base X.A) (hu : X.A.units + 64 < cLine) : CallR X (.builtin "repr") (rReprD X.K) := by
  intro pins s σ H xs us Q I r h
  obtain ⟨v, x, d, e, hd, hp, hs, hl, hdp, q⟩ := h
  subst e
  obtain ⟨u, eu, ru⟩ := vals1 r
  subst eu
  obtain ⟨as, rd, hn⟩ := rep_reads I g.2 x v u d hp hd ru
  have hl' : d.shown.length ≤ sizeLine := Nat.le_trans hl (by rw [sizeLine_eq]; decide)
  have viaRef : ∀ a, u = .ref a → wpAny (model X.prog X.w) X.A (call (.builtin "repr") [u]) (EP X pins σ Q) X.xe s := fun a e => by
    subst e
    exact repr_of_reads' rd hs (fun _ => hn) g.1 (by omega) (fun _ _ e => e) (fun h' t tk k => ⟨.str _, H, I.kept (t' := tk) k, ⟨_, rfl⟩, q⟩) hl'
  cases x with
  | non => unfold Rep at hd; unfold pyA at hp; subst hd; cases hp; cases rd; exact PySem.P.repr_of_none ⟨.str _, H, I.tok _, ⟨_, rfl⟩, q⟩
  | bl b => unfold Rep at hd; unfold pyA at hp; subst hd; cases hp; cases rd; exact PySem.P.repr_of_bool ⟨.str _, H, I.tok _, ⟨_, rfl⟩, q⟩
  | int i => unfold Rep at hd; unfold pyA at hp; subst hd; cases hp; cases rd; exact PySem.P.repr_of_int (by simpa [PyData.showable] using hs) ⟨.str _, H, I.tok _, ⟨_, rfl⟩, q⟩
  | str z => unfold Rep at hd; unfold pyA at hp; subst hd; cases hp; cases rd; exact PySem.P.repr_of_str ⟨.str _, H, I.tok _, ⟨_, rfl⟩, q⟩ hl'
  | lst xs => unfold Rep at hd; obtain ⟨a, _, e, _⟩ := hd; subst e; cases ru; exact viaRef a rfl
  | tup xs => unfold Rep at hd; obtain ⟨a, _, e, _⟩ := hd; subst e; cases ru; exact viaRef a rfl
  | dct xs => unfold Rep at hd; obtain ⟨a, _, e, _⟩ := hd; subst e; cases ru; exact viaRef a rfl
  | ty _ => unfold pyA at hp; cases hp
  | ptr _ => unfold pyA at hp; cases hp
  | ro _ => unfold pyA at hp; cases hp
  | obj _ _ => unfold pyA at hp; cases hp
  | dcT _ => unfold pyA at hp; cases hp
mutual
def rOk : D → Prop
  | .non => True
  | .bl _ => True
  | .int i => i.natAbs.log2 < 1920
  | .str z => ∀ ch ∈ z.cps.toList, ch < 4294967296
  | .lst xs => rOks xs
  | .tup xs => rOks xs
  | .dct kvs => rOkk kvs
  | _ => False
def rOks : List D → Prop
  | [] => True
  | x :: xs => rOk x ∧ rOks xs
def rOkk : List (Key × D) → Prop
  | [] => True
  | (.inl i, x) :: xs => i.natAbs.log2 < 1920 ∧ rOk x ∧ rOkk xs
  | (.inr z, x) :: xs => (∀ ch ∈ z.cps.toList, ch < 4294967296) ∧ rOk x ∧ rOkk xs
end
mutual
def wt : D → Nat
  | .str z => 10 * z.length + 2
  | .lst xs => wts xs + 3
  | .tup xs => wts xs + 3
  | .dct kvs => wtk kvs + 3
  | _ => 1921
def wts : List D → Nat
  | [] => 0
  | x :: xs => wt x + 2 + wts xs
def wtk : List (Key × D) → Nat
  | [] => 0
  | (.inl _, x) :: xs => 1921 + wt x + 4 + wtk xs
  | (.inr z, x) :: xs => 10 * z.length + 2 + wt x + 4 + wtk xs
end
mutual
def dpt : D → Nat
  | .lst xs => dpts xs + 1
  | .tup xs => dpts xs + 1
  | .dct kvs => dptk kvs + 1
  | _ => 0
def dpts : List D → Nat
  | [] => 0
  | x :: xs => max (dpt x) (dpts xs)
def dptk : List (Key × D) → Nat
  | [] => 0
  | (_, x) :: xs => max (dpt x) (dptk xs)
end
theorem shownAll_sum {x : PyData} {xs : List PyData} : ((PyData.shownAll (x :: xs)).map (·.length)).sum = x.shown.length + ((PyData.shownAll xs).map (·.length)).sum := by
  simp [PyData.shownAll]
theorem shownKv_sum {k v : PyData} {xs : List (PyData × PyData)} : ((PyData.shownKv ((k, v) :: xs)).map (·.length)).sum = k.shown.length + 2 + v.shown.length + ((PyData.shownKv xs).map (·.length)).sum := by
  have e2 : (k.shown ++ ": " ++ v.shown).length = k.shown.length + 2 + v.shown.length := by
    rw [strLen_append, strLen_append]; rfl
  simp only [PyData.shownKv, List.map_cons, List.sum_cons, e2]
theorem shownAll_len : ∀ xs : List PyData, (PyData.shownAll xs).length = xs.length
  | [] => rfl
  | x :: xs => by simp [PyData.shownAll, shownAll_len xs]
mutual
theorem rok_py : ∀ x : D, rOk x → ∃ d, pyA x = some d ∧ d.showable = true ∧ d.shown.length ≤ wt x ∧ d.depth ≤ dpt x
  | .non, _ => ⟨_, by unfold pyA; rfl, by simp [PyData.showable], by simp only [PyData.shown, wt]; decide +kernel, by simp [PyData.depth]⟩
  | .bl b, _ => ⟨_, by unfold pyA; rfl, by simp [PyData.showable], by simp only [PyData.shown, wt]; cases b <;> decide +kernel, by simp [PyData.depth]⟩
  | .int i, h => ⟨_, by unfold pyA; rfl, by unfold rOk at h; simp [PyData.showable, h], by unfold rOk at h; simp only [PyData.shown, wt]; exact int_text_len_1921 h, by simp [PyData.depth]⟩
  | .str z, h => ⟨_, by unfold pyA; rfl, by simp [PyData.showable], by unfold rOk at h; simp only [PyData.shown, wt]; exact StrLaws.reprText_len z h, by simp [PyData.depth]⟩
  | .lst xs, h => by
    unfold rOk at h
    obtain ⟨ds, h1, h2, h4, h5⟩ := roks_py xs h
    refine ⟨.list ds, by unfold pyA; rw [h1]; rfl, by simpa [PyData.showable] using h2, ?_, by simp only [PyData.depth, dpt]; omega⟩
    have q := listText_len_le (PyData.shownAll ds)
    simp only [PyData.shown, wt]
    rw [shownAll_len] at q
    omega
  | .tup xs, h => by
    unfold rOk at h
    obtain ⟨ds, h1, h2, h4, h5⟩ := roks_py xs h
    refine ⟨.tuple ds, by unfold pyA; rw [h1]; rfl, by simpa [PyData.showable] using h2, ?_, by simp only [PyData.depth, dpt]; omega⟩
    have q := tupleText_len_le (PyData.shownAll ds)
    simp only [PyData.shown, wt]
    rw [shownAll_len] at q
    omega
  | .dct kvs, h => by
    unfold rOk at h
    obtain ⟨ds, h1, h2, h4, h5⟩ := rokk_py kvs h
    refine ⟨.dict ds, by unfold pyA; rw [h1]; rfl, by simpa [PyData.showable] using h2, ?_, by simp only [PyData.depth, dpt]; omega⟩
    have q := dictText_len_le (PyData.shownKv ds)
    have q2 := PyData.shownKv_length ds
    simp only [PyData.shown, wt]
    omega
  | .ty _, h => by unfold rOk at h; exact h.elim
  | .ro _, h => by unfold rOk at h; exact h.elim
  | .ptr _, h => by unfold rOk at h; exact h.elim
  | .obj _ _, h => by unfold rOk at h; exact h.elim
  | .dcT _, h => by unfold rOk at h; exact h.elim
theorem roks_py : ∀ xs : List D, rOks xs → ∃ ds, pyAs xs = some ds ∧ PyData.showableAll ds = true ∧ ((PyData.shownAll ds).map (·.length)).sum + 2 * ds.length ≤ wts xs ∧ PyData.depthAll ds ≤ dpts xs
  | [], _ => ⟨[], by unfold pyAs; rfl, by simp [PyData.showableAll], by simp [PyData.shownAll], by simp [PyData.depthAll]⟩
  | x :: xs, h => by
    unfold rOks at h
    obtain ⟨d, h1, h2, h4, h5⟩ := rok_py x h.1
    obtain ⟨ds, g1, g2, g4, g5⟩ := roks_py xs h.2
    refine ⟨d :: ds, by unfold pyAs; rw [h1, g1]; rfl, by simp [PyData.showableAll, h2, g2], ?_, by simp only [PyData.depthAll, dpts]; omega⟩
    rw [shownAll_sum]
    simp only [wts, List.length_cons]
    omega
theorem rokk_py : ∀ xs : List (Key × D), rOkk xs → ∃ ds, pyAk xs = some ds ∧ PyData.showableKv ds = true ∧ ((PyData.shownKv ds).map (·.length)).sum + 2 * ds.length ≤ wtk xs ∧ PyData.depthKv ds ≤ dptk xs
  | [], _ => ⟨[], by unfold pyAk; rfl, by simp [PyData.showableKv], by simp [PyData.shownKv], by simp [PyData.depthKv]⟩
  | (.inl i, x) :: xs, h => by
    unfold rOkk at h
    obtain ⟨d, h1, h2, h4, h5⟩ := rok_py x h.2.1
    obtain ⟨ds, g1, g2, g4, g5⟩ := rokk_py xs h.2.2
    have hi : (PyData.int i).shown.length ≤ 1921 := by simp only [PyData.shown]; exact int_text_len_1921 h.1
    refine ⟨(.int i, d) :: ds, by unfold pyAk; rw [h1, g1]; rfl, by simp [PyData.showableKv, PyData.showable, h2, g2, h.1], ?_, by simp only [PyData.depthKv, PyData.depth, dptk]; omega⟩
    rw [shownKv_sum]
    simp only [wtk, List.length_cons]
    omega
  | (.inr z, x) :: xs, h => by
    unfold rOkk at h
    obtain ⟨d, h1, h2, h4, h5⟩ := rok_py x h.2.1
    obtain ⟨ds, g1, g2, g4, g5⟩ := rokk_py xs h.2.2
    have hi : (PyData.str z).shown.length ≤ 10 * z.length + 2 := by simp only [PyData.shown]; exact StrLaws.reprText_len z h.1
    refine ⟨(.str z, d) :: ds, by unfold pyAk; rw [h1, g1]; rfl, by simp [PyData.showableKv, PyData.showable, h2, g2], ?_, by simp only [PyData.depthKv, PyData.depth, dptk]; omega⟩
    rw [shownKv_sum]
    simp only [wtk, List.length_cons]
    omega
end
/-- the repr of data -/
def reprA (x : D) : Str := match pyA x with
  | some d => d.shown
  | none => ⟨#[]⟩
def rpOk (x : D) : Prop := rOk x ∧ wt x ≤ 16000000 ∧ dpt x ≤ 50
def rReprA (K : PySem.W.Frag) : List V → Hp → VK → Prop := rReprD K
theorem call_reprA {X : Cx} (g : GOk X.base X.A) (hu : X.A.units + 64 < cLine) : CallR X (.builtin "repr") (rReprA X.K) := call_reprD g hu
theorem cad_reprA {c : Cd} : CaD c (rReprA c.K) fun ds k => ∃ x, ds = [x] ∧ rpOk x ∧ k (.d (.str (reprA x))) := cad_one fun B G H σ δ r1 v x Ψ Q F h1 e1 hf k => by
  obtain ⟨⟨ho, hw, hd⟩, kk⟩ := hf
  obtain ⟨d, q1, q2, q4, q5⟩ := rok_py x ho
  have er : reprA x = d.shown := by unfold reprA; rw [q1]
  rw [er] at kk
  exact ⟨v, x, d, rfl, view_repH F h1 e1, q1, q2, by omega, by omega, k _ _ G H kk (Ex.refl G) (Ex.refl H) F (rep_str (K := c.K) (G := G))⟩
end DL

/-! DL12: exceptions of own classes over an own base of ValueError. -/
namespace DL
open PySem PySem.Spec PyProof.Rows L2
open Evl (Ex)
section
variable {X : Cx} {e : Expr} {es : List Expr} {ta : TA} {p1 p2 pos : Pos} {B : Str} {CB : Addr} {mc : Value}
/-- Base.__init__(self, ..), Base's __init__ being ValueError's -/
theorem pe_meinit {pl : Sem Bool} (hg : Gl X B) (hm : X.mg B = some (.ref CB)) (rd : ClX.CRead X.K CB mc) (vV : PySem.W.findCls X.K (.ref CB) mc "__init__" = some (.val (.builtin "ValueError.__init__"))) (ha : PA X (e :: es) ta)
    (hc : eval (.Call (.Attribute (.Name B p1) "__init__" p2) (e :: es) [] pos) X.env = (do
      let ov ← eval (.Name B p1) X.env
      standAt p2.atName
      let (f, first) ← holding [ov] (getMethod ov "__init__" pl)
      callWith pos f first (backTo pos (starEach (e :: es) X.env)) (backToKw pos (keywordEach [] X.env))) := by rfl)
    (hdb : (B == ("__debug__" : Str)) = false := by decide) (he : starEach (e :: es) X.env = (false, eval e X.env) :: starEach es X.env := by rfl) (hpl : (backTo pos (starEach es X.env)).any (·.1) = false := by rfl) :
    PE X (.Call (.Attribute (.Name B p1) "__init__" p2) (e :: es) [] pos) (tVeI X.K ta) := by
  constructor
  intro pins s σ H Q I h
  refine PySem.W.methodCall_KW (ld_glob I hg hm ?_ hdb) hc
  refine PySem.W.method_cls I.kIn rd.ga (PySem.W.cls_value I.kIn rd.rd vV rfl ?_)
  show wpAny _ _ (callWith pos (Value.builtin "ValueError.__init__") [] (backTo pos (starEach (e :: es) X.env)) []) _ _ _
  refine PyProof.Rows.callWith_method1 (thn (ha.run pos pins _ σ H _ (I.tok _) h) fun us s1 hh => ?_) he hpl
  obtain ⟨vs, H1, I1, r1, a, C, ws, ev, hl, T, ea, q⟩ := hh
  subst ev
  obtain ⟨u0, ur, eu, ra, rw'⟩ : ∃ u0 ur, us = u0 :: ur ∧ RelV (.ref a) u0 ∧ Vals ws ur := by
    cases r1 with
    | @cons _ u0 _ ur ra rw' => exact ⟨u0, ur, rfl, ra, rw'⟩
  subst eu
  have e0 : u0 = Value.ref a := ra
  subst e0
  refine oinit_ok T I1 ea ?_ fun s' J => ⟨.non, H1, J, rfl, q⟩
  rw [← Paired.length rw', sizeLine_eq]
  exact Nat.le_trans hl (by decide)
end
/-- what an own exception's __init__ does: its fields, the last one first -/
def spInit (K : PySem.W.Frag) (fl : List Str) : Sp := fun vs H Q _ => ∃ (a C : Addr) (ws : List V), vs = .ref a :: ws ∧ ws.length = fl.length ∧ OexC K C ∧ (∀ f ∈ fl, PySem.W.findIn K (.ref C) f = some none) ∧ H a = some (exo a C none) ∧
  ∀ dx, H dx = none → dx ≠ a → Q .non (upd (upd H dx (exd dx (fl.zip ws.reverse))) a (exo a C (some dx)))
theorem init_reads {K : PySem.W.Frag} {f : Str} {m : Str} {vs : List V} {N : List Str} {H : Hp} {Q : VK} {E : XK} (hN : N.length = 2) (h : spInit K [f] vs H Q E) :
    tSeq (tDrop (tVeI K (tCons (tVar 0) (tCons (tC (.str m)) tNil)))) (tOst K f (tVar 0) (tVar 1)) { nx := fun _ H' => Q .non H', rt := Q } (L2.start N vs) H := by
  obtain ⟨a, C, ws, e, hl, T, hf, ea, q⟩ := h
  match ws, hl with
  | [v], _ =>
    subst e
    have es : L2.start N [.ref a, v] = [some (.ref a), some v] := by
      unfold L2.start
      rw [hN]
      rfl
    rw [es]
    exact ⟨_, rfl, a, C, [.str m], rfl, Nat.le_of_ble_eq_true rfl, T, ea, _, rfl, _, rfl, a, C, rfl, T, hf f List.mem_cons_self, .inl ⟨ea, fun dx h1 h2 => q dx h1 h2⟩⟩
theorem init_reads2 {K : PySem.W.Frag} {f g : Str} {m : Str} {vs : List V} {N : List Str} {H : Hp} {Q : VK} {E : XK} (hN : N.length = 3) (h : spInit K [g, f] vs H Q E) :
    tSeq (tDrop (tVeI K (tCons (tVar 0) (tCons (tC (.str m)) tNil)))) (tSeq (tOst K f (tVar 0) (tVar 1)) (tOst K g (tVar 0) (tVar 2))) { nx := fun _ H' => Q .non H', rt := Q } (L2.start N vs) H := by
  obtain ⟨a, C, ws, e, hl, T, hf, ea, q⟩ := h
  match ws, hl with
  | [v, w], _ =>
    subst e
    have es : L2.start N [.ref a, v, w] = [some (.ref a), some v, some w] := by
      unfold L2.start
      rw [hN]
      rfl
    rw [es]
    refine ⟨_, rfl, a, C, [.str m], rfl, Nat.le_of_ble_eq_true rfl, T, ea, _, rfl, _, rfl, a, C, rfl, T, hf f (List.mem_cons_of_mem _ List.mem_cons_self), .inl ⟨ea, fun dx h1 h2 => ?_⟩⟩
    refine ⟨_, rfl, _, rfl, a, C, rfl, T, hf g List.mem_cons_self, .inr ⟨dx, [(f, v)], upd_same, by rw [upd_ne h2, upd_same], by simp, ?_⟩⟩
    have eh : upd (upd (upd H dx (exd dx [(f, v)])) a (exo a C (some dx))) dx (exd dx ((g, w) :: [(f, v)])) = upd (upd H dx (exd dx ([g, f].zip [v, w].reverse))) a (exo a C (some dx)) := by
      funext b
      by_cases q1 : b = dx
      · subst q1; rw [upd_same, upd_ne h2, upd_same]; rfl
      · rw [upd_ne q1]
        by_cases q2 : b = a
        · subst q2; rw [upd_same, upd_same]
        · rw [upd_ne q2, upd_ne q1, upd_ne q2, upd_ne q1]
    rw [eh]
    exact q dx h1 h2
end DL
namespace DL
open PySem PySem.Spec PyProof.Rows L2
open Evl (Ex)
/-! ### contracts that may raise -/
structure Cn where
  ad : Nat → Addr
  fl : Nat → List Str
  bs : Addr
abbrev SpX := List Sl → (R → List Sl → Prop) → (Nat → D → Prop) → Prop
/-- the fields of what was raised, of one thing, or of two in a tuple -/
def xfs : List Str → D → List (Str × D)
  | [f], x => [(f, x)]
  | [g, f], .tup [y, z] => [(g, z), (f, y)]
  | _, _ => []
/-- where a def raises, a new object without fields is lost, nothing else -/
def lose : List Sl → List Sl
  | .own _ (.obj _ []) :: as => .no :: as
  | as => as
theorem lose_sl {K : PySem.W.Frag} {G H : Hp} : ∀ {as : List Sl} {σ : St}, SlsR K G H as σ → SlsR K G H (lose as) σ := fun {as σ} h => by
  unfold lose
  split
  · obtain ⟨ov, σr, e, _, h2⟩ := h
    exact ⟨ov, σr, e, trivial, h2⟩
  · exact h
theorem lose_ds (ds : List D) : lose (ds.map Sl.d) = ds.map Sl.d := by cases ds <;> rfl
/-- a body that raises has left its parameters as they were -/
def Kp (as δ : List Sl) : Prop := parOk (lose as) δ ∧ parBack (lose as) δ = lose as
/-- an exception behind a call: its class, its dict with its fields -/
def liftX (K : PySem.W.Frag) (cn : Cn) (S : SpX) : Sp := fun vs H Q X => ∃ B G as, Frame K B G H (vs.map some) as ∧
  S as (fun r as' => ∀ v G' H', Ex G G' → Frame K B G' H' (vs.map some) as' → RV K B G' H' as' r v → Q v H')
    (fun nm x => ∀ d v G' H', Ex G G' → Frame K B G' H' (vs.map some) (lose as) → G' d = some (.xd v) → RepF K G' (xfs (cn.fl nm) x) v → X (.ref (cn.ad nm)) (some d) H')
/-- what a body that may raise leans on: Ψ is raised from slots δ' -/
def XR (K : PySem.W.Frag) (cn : Cn) (Ψ : Nat → D → List Sl → Prop) (W : WX) (B G : Hp) : Prop := ∀ nm x δ' σ' d v G' H', Ψ nm x δ' → Ex G G' → Frame K B G' H' σ' δ' → G' d = some (.xd v) → RepF K G' (xfs (cn.fl nm) x) v → W (.ref (cn.ad nm)) (some d) σ' H'
abbrev cX (K : PySem.W.Frag) (cn : Cn) (Ψ : Nat → D → List Sl → Prop) (W : WX) : Cd := ⟨K, XR K cn Ψ W, fun _ _ _ e h nm x δ' σ' d v G' H' a b c d' e' => h nm x δ' σ' d v G' H' a (e.trans b) c d' e'⟩
/-- a wall round all that is no one's yet -/
def wall (G H : Hp) : Hp := fun b => if (G b).isSome = true then none else H b
theorem wall_some {G H : Hp} {b : Addr} {o : HO} (h : H b = some o) (g : G b = none) : wall G H b = some o := by
  unfold wall
  rw [if_neg (by rw [g]; exact Bool.false_ne_true)]
  exact h
theorem wall_of {G H : Hp} {b : Addr} {o : HO} (h : wall G H b = some o) : H b = some o ∧ G b = none := by
  unfold wall at h
  cases g : G b with
  | none => rw [g] at h; exact ⟨h, rfl⟩
  | some u => rw [g] at h; cases h
section
variable {K : PySem.W.Frag} {B G G' H H' : Hp} {σ : St} {δ as : List Sl} {vs : List V}
theorem wall_frame (F : Frame K B G H σ δ) (hs : SlsR K G H as (vs.map some)) (ho : owned as = []) : Frame K (wall G H) G H (vs.map some) as :=
  ⟨fun b o h => (wall_of h).1, F.exG, fun b => by
    cases e : wall G H b with
    | none => exact .inl rfl
    | some o => exact .inr (.inl (wall_of e).2), hs, fun a ha => (by rw [ho] at ha; cases ha), by rw [ho]; exact List.nodup_nil⟩
theorem wall_back (F : Frame K B G H σ δ) (eG : Ex G G') (eB : Ex (wall G H) H') (eG' : Ex G' H') (dis : ∀ b, AptV (wall G H b) (G' b)) : Frame K B G' H' σ δ := by
  have thru : ∀ b o, H b = some o → G b = none → H' b = some o ∧ AptV (some o) (G' b) := fun b o h g => by
    have w := wall_some h g
    refine ⟨eB b o w, ?_⟩
    have q := dis b
    rw [w] at q
    exact q
  refine ⟨fun b o h => ?_, eG', fun b => ?_, F.sl.ex eG (fun a ha => ?_), fun a ha => ⟨(F.own a ha).1, ?_⟩, F.nd⟩
  · have h1 := F.exB b o h
    rcases F.dis b with q | q | ⟨xs, q⟩
    · rw [h] at q; cases q
    · exact (thru b o h1 q).1
    · have h2 := F.exG b _ q
      rw [h1] at h2
      cases h2
      exact eG' b _ (eG b _ q)
  · cases e : B b with
    | none => exact .inl rfl
    | some o =>
      rcases F.dis b with q | q | ⟨xs, q⟩
      · rw [e] at q; cases q
      · exact (thru b o (F.exB b o e) q).2
      · exact .inr (.inr ⟨xs, eG b _ q⟩)
  · obtain ⟨o, ho⟩ := F.there ha
    rw [ho]
    exact (thru a o ho (F.own a ha).2).1
  · obtain ⟨o, ho, n⟩ := F.obj ha
    have h2 := thru a o ho (F.own a ha).2
    rcases h2.2 with q | q | ⟨xs, q⟩
    · cases q
    · exact q
    · have h3 := eG' a _ q
      rw [h2.1] at h3
      cases h3
      exact absurd rfl (n xs)
theorem wall_new (F : Frame K B G H σ δ) (eG : Ex G G') {a : Addr} (h1 : wall G H a = none) (h2 : G' a = none) : B a = none ∧ a ∉ owned δ := by
  have g : G a = none := by
    cases e : G a with
    | none => rfl
    | some o => rw [eG a o e] at h2; cases h2
  have hH : H a = none := by
    cases e : H a with
    | none => rfl
    | some o => rw [wall_some e g] at h1; cases h1
  obtain ⟨q1, _, q3⟩ := F.fresh hH
  exact ⟨q1, q3⟩
end
end DL
namespace DL
open PySem PySem.Spec PyProof.Rows L2
open Evl (Ex)
section
variable {K : PySem.W.Frag} {cn : Cn} {Ψ : Nat → D → List Sl → Prop} {W : WX} {p : Bool} {δ : List Sl}
theorem slsR_datas {G H : Hp} : ∀ {ds : List D} {vs : List V}, RVs K G (ds.map R.d) vs → SlsR K G H (ds.map Sl.d) (vs.map some)
  | [], vs, h => by
    have e : vs = [] := h
    rw [e]
    exact rfl
  | d :: ds, vs, h => by
    obtain ⟨v, vr, e, h1, h2⟩ := h
    subst e
    exact ⟨some v, vr.map some, rfl, ⟨v, rfl, h1⟩, slsR_datas h2⟩
theorem owned_datas : ∀ ds : List D, owned (ds.map Sl.d) = []
  | [] => rfl
  | _ :: ds => owned_datas ds
/-- a call that may raise, its arguments data -/
theorem we_callX {S : SpX} {tr : TA} {Φ : R → List Sl → Prop} (h : WA (cX K cn Ψ W) false tr δ fun rs δ1 => ∃ ds : List DL.D, rs = ds.map DL.R.d ∧
    ∀ (P : R → List Sl → Prop) (Y : Nat → D → Prop), (∀ r as', ownOut r → Φ r δ1 → P r as') → (∀ nm x, Ψ nm x δ1 → Y nm x) → S (ds.map Sl.d) P Y) : WE (cX K cn Ψ W) false (tCallS (liftX K cn S) (L2.WE W) tr) δ Φ := by
  intro B G H σ Q F x k
  refine h B G H σ _ F x fun rs δ1 vs G1 H1 w e1 F1 rv p1 => ?_
  obtain ⟨ds, e, hS⟩ := w
  subst e
  refine ⟨wall G1 H1, G1, ds.map Sl.d, wall_frame F1 (slsR_datas rv) (owned_datas ds), hS _ _ (fun r as' ho q v G' H' eG F' rv' => ?_) fun nm y q d v G' H' eG F' hd hr => ?_⟩
  · have Fb := wall_back F1 eG F'.exB F'.exG F'.dis
    refine k r δ1 v G' H' q (e1.trans eG) Fb ?_ fun z => nomatch z
    cases r with
    | d y => exact rv'
    | own a y =>
      obtain ⟨q1, q2, q3, q4, q5⟩ := rv'
      obtain ⟨n1, n2⟩ := wall_new F1 eG q3 q4
      exact ⟨q1, q2, n1, q4, n2⟩
    | deep a y gs =>
      obtain ⟨q1, q2, q3, q4, q5⟩ := rv'
      exact ⟨q1, q2, q3, fun b hb => ⟨(wall_new F1 eG (q4 b hb).1 (q4 b hb).2.1).1, (q4 b hb).2.1, (wall_new F1 eG (q4 b hb).1 (q4 b hb).2.1).2⟩, q5⟩
    | bor i a => exact ho.elim
  · exact x nm y δ1 σ d v G' H' q (e1.trans eG) (wall_back F1 eG F'.exB F'.exG F'.dis) hd hr
theorem repF_zip {G : Hp} : ∀ {fl : List Str} {ys : List DL.D} {vs : List V}, Reps K G ys vs → RepF K G (fl.zip ys) (fl.zip vs)
  | [], ys, vs, _ => by show RepF K G [] []; unfold RepF; rfl
  | f :: fl, [], vs, h => by unfold Reps at h; subst h; show RepF K G [] []; unfold RepF; rfl
  | f :: fl, y :: ys, vs, h => by
    unfold Reps at h
    obtain ⟨v, vr, e, h1, h2⟩ := h
    subst e
    show RepF K G ((f, y) :: fl.zip ys) ((f, v) :: fl.zip vr)
    unfold RepF
    exact ⟨v, _, rfl, h1, repF_zip h2⟩
theorem rvs_datas {G : Hp} : ∀ {ys : List DL.D} {vs : List V}, RVs K G (ys.map DL.R.d) vs → Reps K G ys vs
  | [], vs, h => by have e : vs = [] := h; subst e; exact reps_nil
  | y :: ys, vs, h => by
    obtain ⟨v, vr, e, h1, h2⟩ := h
    subst e
    exact reps_cons h1 (rvs_datas h2)
/-- raise C(e, ..), C's own __init__ keeping its fields -/
theorem ws_raise {C : Addr} {ta : TA} {E : En} {nm : Nat} (hC : cn.ad nm = C) (T : OexC K C) (hf : ∀ f ∈ cn.fl nm, PySem.W.findIn K (.ref C) f = some none)
    (h : WA (cX K cn Ψ W) false ta δ fun rs δ1 => ∃ (ys : List DL.D) (x : DL.D), rs = ys.map DL.R.d ∧ ys.length = (cn.fl nm).length ∧ ys.length ≤ 1000 ∧ xfs (cn.fl nm) x = (cn.fl nm).zip ys.reverse ∧ Ψ nm x δ1) : WS (cX K cn Ψ W) (fun _ σ H => tMkO C (spInit K (cn.fl nm)) [] ta σ H fun cls d H' => W cls d σ H') δ E := by
  intro B G H σ Dd F x _
  refine h B G H σ _ F x fun rs δ1 vs G1 H1 w e1 F1 rv p1 => ?_
  obtain ⟨ys, y, e, hl, hl2, hx, q⟩ := w
  subst e
  have hr := rvs_datas rv
  have hvl := reps_length hr
  have hz := repF_zip (fl := cn.fl nm) (reps_rev hr)
  rw [← hx] at hz
  refine ⟨by rw [hvl]; exact hl2, fun a ha => ⟨a, C, vs, by rw [List.append_nil], by rw [hvl, hl], T, hf, upd_same, fun dx h3 h4 => ?_⟩⟩
  have hdx : H1 dx = none := by rw [upd_ne h4] at h3; exact h3
  generalize (cn.fl nm).zip vs.reverse = fvs at hz ⊢
  refine ⟨rfl, dx, fvs, upd_same, by rw [upd_ne h4, upd_same], hdx, ?_⟩
  have eh : upd (del (upd (upd (upd H1 a (exo a C none)) dx (exd dx fvs)) a (exo a C (some dx))) a) dx (.xd fvs) = upd H1 dx (.xd fvs) := by
    funext b
    by_cases q1 : b = dx
    · subst q1; rw [upd_same, upd_same]
    · rw [upd_ne q1, upd_ne q1]
      unfold del
      by_cases q2 : b = a
      · rw [if_pos q2, q2, ha]
      · rw [if_neg q2, upd_ne q2, upd_ne q1, upd_ne q2]
  rw [eh]
  subst hC
  have hG := (F1.fresh hdx).2.1
  exact x nm y δ1 σ dx fvs _ _ q (e1.trans (Ex.new hG)) (F1.laid hdx) upd_same (hz.mono (Ex.new hG))
end
end DL
namespace DL
open PySem PySem.Spec PyProof.Rows L2
open Evl (Ex)
/-! ### defs that may raise -/
section
variable {P : Program} {w : World} {K : PySem.W.Frag} {mg : Str → Option Value} {base : Heap}
theorem okGX {x qual : Str} {st : Stmt} {f : Addr} {fd : FuncData} {N ps : List Str} {k : Nat} {sp : Sp} (F : Fun K x qual st f fd) (S : FnScope N ps (defScope st)) (len : ∀ vs H Q E, sp vs H Q E → vs.length = ps.length)
    (hb : ∀ (cdv : Value) (A : Around) (outer : List Env) (s : Shared) (H : Hp) (vs : List V) (Q : VK) (E : XK), GOk base A → Room k (A.deeper (envOfC qual (defScope st) s.heap.objs.size f cdv)) → sp vs H Q E →
      ∃ t, PSs (cxOf (L2.CX P w) P w K mg base N qual (defScope st) f cdv A outer s H E) (defBody st) t ∧ t { nx := fun _ H' => Q .non H', rt := Q } (L2.start N vs) H) : FnG P w K mg base (L2.CX P w) (k + 1) f fd ps sp := by
  obtain ⟨_, _, _, _, _, _, cdv, _, _, e, lk, hcd⟩ := F.ex
  subst e
  exact fnG_of lk hcd S len fun A outer s H vs Q E g r q => hb cdv A outer s H vs Q E g r q
theorem tkX {N : List Str} {qual : Str} {scope : Scope} {f : Addr} {cd : Value} {A : Around} {outer : List Env} {s : Shared} {H : Hp} {E : XK} : Takes (cxOf (L2.CX P w) P w K mg base N qual scope f cd A outer s H E) (fun cls d _ H => E cls d H) := takes_of rfl rfl rfl rfl
theorem psX {N : List Str} {qual : Str} {scope : Scope} {f : Addr} {cd : Value} {A : Around} {outer : List Env} {s : Shared} {H : Hp} {E : XK} :
    PassesOwn (model P w) (cxOf (L2.CX P w) P w K mg base N qual scope f cd A outer s H E).A (cxOf (L2.CX P w) P w K mg base N qual scope f cd A outer s H E).env (cxOf (L2.CX P w) P w K mg base N qual scope f cd A outer s H E).xe := passes_of rfl
end
section
variable {X : Cx} {CX : CXT} {k : Nat} {f : Addr} {fd : FuncData} {ps : List Str} {sp : Sp} {E : L2.St → XK} {x : Str} {p pos : Pos} {e : Expr} {es : List Expr} {t : TA}
theorem pe_callSG (F : FnG X.prog X.w X.K X.mg X.base CX k f fd ps sp) (g : GOk X.base X.A) (hr : Room k X.A) (hg : Gl X x) (hm : X.mg x = some (.ref f)) (hk : PySem.W.keepIn X.K (.ref f) = true) (hb : Binds X.K fd ps []) (hx : ∀ σ, PassesAt CX X σ (E σ))
    (ha : PA X (e :: es) t) (hdb : (x == ("__debug__" : Str)) = false := by decide) (he : starEach (e :: es) X.env = (false, eval e X.env) :: starEach es X.env := by rfl) (hpl : (backTo pos (starEach es X.env)).any (·.1) = false := by rfl) : PE X (.Call (.Name x p) (e :: es) [] pos) (tCallS sp E t) := by
  constructor
  intro pins s σ H Q I h
  refine wpAny_Call_Name_kw (ld_glob I hg hm (PySem.W.callWith_K (h₀ := X.base) I.ok.mod.kin hk (thn (ha.run pos pins s σ H _ I h) fun us s1 ⟨vs, H1, I1, r, q⟩ => ⟨I1.kIn, ?_⟩) he hpl) hdb)
  have many : us.length = ps.length := by rw [← r.length]; exact F.len _ _ _ _ q
  have b := hb s1 us I1.kIn (by rw [List.append_nil]; exact many)
  rw [List.append_nil] at b
  refine wpAny_call (codeAny_mono (F.run X.A X.stack s1 H1 ⟨us, []⟩ us vs Q (E σ) g hr I1.env0 b r q) fun res s' q' => ?_)
  match res, q' with
  | .error ex, q' => exact hx σ pins H1 s1 ex s' I1 q'
  | .ok (.ret u), q' => exact I1.after q'
end
section
variable {K : PySem.W.Frag} {cn : Cn}
theorem liftX_len {S : SpX} {n : Nat} (hl : ∀ as Φ Y, S as Φ Y → as.length = n) {vs : List V} {H : Hp} {Q : VK} {X : XK} (h : liftX K cn S vs H Q X) : vs.length = n := by
  obtain ⟨B, G, as, F, hS⟩ := h
  have e := F.sl.len
  rw [← hl as _ _ hS, ← e, List.length_map]
end
end DL
namespace DL
open PySem PySem.Spec PyProof.Rows L2
open Evl (Ex)
/-! ### try, except X as n -/
/-- in an except suite: the exception's dict -/
abbrev cS (K : PySem.W.Frag) (d : Addr) (fs : List (Str × D)) : Cd := ⟨K, fun _ G => ∃ v, G d = some (.xd v) ∧ RepF K G fs v, fun _ _ _ e ⟨v, h1, h2⟩ => ⟨v, e _ _ h1, h2.mono e⟩⟩
section
variable {K : PySem.W.Frag} {cn : Cn} {p : Bool} {δ : List Sl}
theorem ws_try {i : Nat} {tb : WX → TS} {ts : Addr → Value → Option Addr → TS} {cE : Value} {Ψ : Nat → D → List Sl → Prop} {E : En} (hb : ∀ W : WX, WS (cX K cn Ψ W) (tb W) δ E)
    (hs : ∀ nm x δ', Ψ nm x δ' → PySem.W.exmOne K (.ref (cn.ad nm)) cE = some true ∧ ∀ (a d : Addr), WS (cS K d (xfs (cn.fl nm) x)) (ts a (.ref (cn.ad nm)) (some d)) (δ'.set i (.d (.ptr a)))
      ⟨fun δ3 => E.nx (δ3.set i .no), E.rt, fun δ3 => E.bk (δ3.set i .no), fun δ3 => E.ct (δ3.set i .no)⟩) :
    WS (c0 K) (fun D σ H => tb (wAs K cE i ts (fun _ _ _ _ => False) D) D σ H) δ E := by
  intro B G H σ Dn F x hE
  refine hb _ B G H σ Dn F (fun nm y δ' σ' d v G' H' q eG F' hd hr => ?_) ⟨hE.nx, hE.rt, hE.bk, hE.ct⟩
  obtain ⟨h1, h2⟩ := hs nm y δ' q
  refine ⟨true, h1, fun _ a ha => ?_, fun z => nomatch z⟩
  have Fs : Frame K B G' H' (σ'.set i (some (.ref a))) (δ'.set i (.d (.ptr a))) := frame_set (r := .d (.ptr a)) F' (by show Rep K G' (.ptr a) (.ref a); unfold Rep; rfl) rfl
  refine h2 a d B G' H' _ _ Fs ⟨v, hd, hr⟩ ⟨fun δ3 σ3 G3 H3 w e F3 => ?_, fun r δ3 u σ3 G3 H3 w e F3 rv => hE.rt r δ3 u σ3 G3 H3 w (eG.trans e) F3 rv, fun δ3 σ3 G3 H3 w e F3 => ?_, fun δ3 σ3 G3 H3 w e F3 => ?_⟩
  · exact hE.nx _ _ G3 H3 w (eG.trans e) (frame_wipe F3 [i])
  · exact hE.bk _ _ G3 H3 w (eG.trans e) (frame_wipe F3 [i])
  · exact hE.ct _ _ G3 H3 w (eG.trans e) (frame_wipe F3 [i])
/-- e.f, e the exception that the suite holds -/
theorem we_xf {a d C : Addr} {f : Str} {fs : List (Str × D)} {x : D} {te : TE} {Φ : R → List Sl → Prop} (hl : fs.lookup f = some x) (h : WE (cS K d fs) p te δ fun r δ1 => r = .d (.ptr a) ∧ Φ (.d x) δ1) : WE (cS K d fs) p (tXf a (.ref C) (some d) C f te) δ Φ := by
  intro B G H σ Q F xr k
  refine h B G H σ _ F xr fun r δ1 u G1 H1 w e1 F1 rv p1 => ?_
  obtain ⟨er, w⟩ := w
  subst er
  have eu : u = .ref a := by
    have z : Rep K G1 (.ptr a) u := rv
    unfold Rep at z
    exact z
  obtain ⟨fvs, x1, x2⟩ := xr
  have look : ∀ {fs : List (Str × D)} {vs : List (Str × V)}, RepF K G fs vs → fs.lookup f = some x → ∃ v, vs.lookup f = some v ∧ Rep K G x v := by
    intro fs
    induction fs with
    | nil => intro vs _ e; cases e
    | cons q fs ih =>
      intro vs h e
      obtain ⟨g, y⟩ := q
      unfold RepF at h
      obtain ⟨v, vr, e1, h1, h2⟩ := h
      subst e1
      rw [List.lookup_cons] at e ⊢
      cases z : f == g with
      | true => rw [z] at e; cases e; exact ⟨v, rfl, h1⟩
      | false => rw [z] at e; exact ih h2 e
  obtain ⟨w', l1, l2⟩ := look x2 hl
  exact ⟨eu, rfl, d, fvs, w', rfl, F1.exG d _ (e1 d _ x1), l1, k _ δ1 w' G1 H1 w e1 F1 (l2.mono e1) p1⟩
/-- isinstance(e, C) -/
def rIsED (K : PySem.W.Frag) (C a d : Addr) : List V → Hp → VK → Prop := fun xs H Q => ∃ (C' : Addr) (b : Bool) (fs : List (Str × V)), xs = [.ref a, .ref C'] ∧ H d = some (.xd fs) ∧ PySem.W.kitOne K (.ref C) (.ref C') = some b ∧ Q (.bl b) H
theorem call_isED {X : Cx} {a C d : Addr} {oe : Obj} {pn : List (Addr × Obj)} {gt : Option Value} (hcl : (PySem.W.clsIn X.K C).isSome = true) (hga : PySem.W.findIn X.K (.ref C) "__getattribute__" = some (some (.builtin "BaseException.__getattribute__"))) (hgt : PySem.W.findIn X.K (.ref C) "__getattr__" = some gt)
    (hsub : PySem.W.subIn X.K (.ref C) (.type "BaseException") = some true) (ha : PySem.W.findIn X.K (.ref C) "__class__" = some (some (.builtin "object.__class__"))) (hn : PySem.W.specialIn X.K (.builtin "object.__class__") "__get__" = some (some (.builtin "getset_descriptor.__get__")))
    (htk : PySem.W.takesIn X.K (.builtin "object.__class__") = some true) (hm : PySem.W.mroIn X.K C (.type "object") = some true) (hz : Zc (.ref C) (some d) oe) (hf : ∃ vs, oe.data = .fields vs) : CallR (X.suite a ((a, oe) :: pn)) (.builtin "isinstance") (rIsED X.K C a d) := by
  intro pins s σ H xs us Q I r h
  obtain ⟨C', b, fs, e, hd, hk, q⟩ := h
  subst e
  obtain ⟨u1, u2, eu, r1, r2⟩ := vals2 r
  subst eu
  have e1 : u1 = .ref a := r1
  have e2 : u2 = .ref C' := r2
  subst e1 e2
  obtain ⟨hget, _⟩ := I.pin (a, oe) (List.mem_append_left _ List.mem_cons_self)
  obtain ⟨vs, hv⟩ := hf
  obtain ⟨mA, hns, _⟩ := (show ObjOk X.prog X.w H s.heap d (.xd fs) from I.hok d _ hd)
  obtain ⟨od, ho, _⟩ := lookIn_ns hns
  have J : PySem.W.InstAt s.heap a oe C (some od) := ⟨hget, hz.1, by unfold PySem.W.notCls; rw [hv] <;> rfl, by rw [hz.2]; exact ho⟩
  exact PySem.W.kia_one (PySem.W.kitx_exc hcl hga hgt hsub ha hn htk hm) I.kIn J hk (fun z => nomatch z) fun tk => ⟨.bl b, H, I.kept (t' := tk) fun _ _ z => z, rfl, q⟩
theorem we_isE {a d C : Addr} {fs : List (Str × D)} {tr : TA} {Φ : R → List Sl → Prop} (h : WA (cS K d fs) p tr δ fun rs δ1 => ∃ (C' : Addr) (b : Bool), rs = [.d (.ptr a), .d (.ptr C')] ∧ PySem.W.kitOne K (.ref C) (.ref C') = some b ∧ Φ (.d (.bl b)) δ1) :
    WE (cS K d fs) p (tCB (rIsED K C a d) tr) δ Φ := by
  intro B G H σ Q F xr k
  refine h B G H σ _ F xr fun rs δ1 vs G1 H1 w e1 F1 rv p1 => ?_
  obtain ⟨C', b, er, hk, w⟩ := w
  subst er
  obtain ⟨u, ur, eu, h1, u2, ur2, eu2, h2, h3⟩ := rv
  have e3 : ur2 = [] := h3
  subst e3 eu2 eu
  have q1 : u = .ref a := by
    have z : Rep K G1 (.ptr a) u := h1
    unfold Rep at z
    exact z
  have q2 : u2 = .ref C' := by
    have z : Rep K G1 (.ptr C') u2 := h2
    unfold Rep at z
    exact z
  subst q1 q2
  obtain ⟨fvs, x1, _⟩ := xr
  exact ⟨C', b, _, rfl, F1.exG d _ (e1 d _ x1), hk, k _ δ1 _ G1 H1 w e1 F1 (rep_bl (K := K) (G := G1)) p1⟩
end
end DL

/-! DL13: kept empty: what stood here is in DL11. -/

/-! DL14: an except suite that asks which class it holds. -/
namespace DL
open PySem PySem.Spec PyProof.Rows L2
open Evl (Ex)
/-- what the text says of an exception's class, its field f -/
structure ExcAll (K : PySem.W.Frag) (C : Addr) (fl : List Str) : Prop where
  oex : OexC K C
  xf : XfC K C
  fno : ∀ f ∈ fl, PySem.W.findIn K (.ref C) f = some none
  hcl : (PySem.W.clsIn K C).isSome = true
  hat : PySem.W.findIn K (.ref C) "__class__" = some (some (.builtin "object.__class__"))
  hm : PySem.W.mroIn K C (.type "object") = some true
  hn : PySem.W.specialIn K (.builtin "object.__class__") "__get__" = some (some (.builtin "getset_descriptor.__get__"))
  htk : PySem.W.takesIn K (.builtin "object.__class__") = some true
def tXfX (K : PySem.W.Frag) (a : Addr) (cls : Value) (d : Option Addr) (f : Str) (te : TE) : TE := fun σ H Q => ∃ C dd fl, cls = .ref C ∧ d = some dd ∧ ExcAll K C fl ∧ f ∈ fl ∧ tXf a cls d C f te σ H Q
theorem pe_xfX {X : Cx} {a : Addr} {oe : Obj} {cls : Value} {d : Option Addr} {pn : List (Addr × Obj)} {e : Expr} {te : TE} {pos : Pos} {n : Str} (hz : Zc cls d oe) (hf : ∃ vs, oe.data = .fields vs) (he : PE (X.suite a ((a, oe) :: pn)) e te)
    (hb : attributeBase e n X.env (eval e X.env) = eval e X.env := by rfl) : PE (X.suite a ((a, oe) :: pn)) (.Attribute e n pos) (tXfX X.K a cls d n te) := by
  constructor
  intro pins s σ H Q I h
  obtain ⟨C, dd, fl, _, _, T, hm, q⟩ := h
  exact (pe_xf (pos := pos) T.xf (T.fno _ hm) hz hf he hb).run pins s σ H Q I q
section
variable {K : PySem.W.Frag} {p : Bool} {δ : List Sl} {a d C : Addr} {f : Str} {fl : List Str} {fs : List (Str × D)} {x : D}
theorem we_xfX {te : TE} {Φ : R → List Sl → Prop} (T : ExcAll K C fl) (hm : f ∈ fl) (hl : fs.lookup f = some x) (h : WE (cS K d fs) p te δ fun r δ1 => r = .d (.ptr a) ∧ Φ (.d x) δ1) : WE (cS K d fs) p (tXfX K a (.ref C) (some d) f te) δ Φ := fun B G H σ Q F xr k =>
  ⟨C, d, fl, rfl, rfl, T, hm, we_xf (C := C) hl h B G H σ Q F xr k⟩
end
end DL

/-! DL15: what the text says of an exception's class, and its __init__. -/
namespace DL
open PySem PySem.Spec PyProof.Rows L2
open Evl (Ex)
/-- a class of the text, its own __init__ the def st, f_ its function -/
structure ExcDef (K : PySem.W.Frag) (mg : Str → Option Value) (C : Addr) (nm qual : Str) (st : Stmt) (fl : List Str) (fI : Addr) (fd : FuncData) : Prop where
  all : ExcAll K C fl
  g : mg nm = some (.ref C)
  iC : PySem.W.findIn K (.ref C) "__init__" = some (some (.ref fI))
  tI : PySem.W.typeIn K (.ref fI) = some (.type "function")
  fn : Fun K "__init__" qual st fI fd
  b : Binds K fd ("self" :: fl.reverse) []
/-- the base of all of them -/
structure ExcBase (K : PySem.W.Frag) (mg : Str → Option Value) (B : Addr) (nm : Str) : Prop where
  g : mg nm = some (.ref B)
  rd : ClX.CRead K B (.type "type")
  vV : PySem.W.findCls K (.ref B) (.type "type") "__init__" = some (.val (.builtin "ValueError.__init__"))
theorem spInit_len {K : PySem.W.Frag} {fl : List Str} {vs : List V} {H : Hp} {Q : VK} {E : XK} (h : spInit K fl vs H Q E) : vs.length = fl.length + 1 := by
  obtain ⟨_, _, ws, e, hl, _⟩ := h
  rw [e, List.length_cons, hl]
/-- words about a def, the exceptions' facts known -/
def WsC {Fx : PySem.W.Frag → Cn → Prop} (S : SpD) (t : PySem.W.Frag → Cn → TS) (pad : List Sl) : Prop := ∀ (K : PySem.W.Frag) (cn : Cn) (as : List Sl) (Φ : R → List Sl → Prop), Fx K cn → S as Φ → W (c0 K) (t K cn) (as ++ pad) (RetD as Φ (.d .non)) (RetD as Φ) (fun _ => False) (fun _ => False)
def WsXC {Fx : PySem.W.Frag → Cn → Prop} (S : SpX) (t : PySem.W.Frag → Cn → WX → TS) (pad : List Sl) : Prop := ∀ (K : PySem.W.Frag) (cn : Cn) (Wx : WX) (as : List Sl) (Φ : R → List Sl → Prop) (Y : Nat → D → Prop), Fx K cn → S as Φ Y →
  W (cX K cn (fun nm x δ' => Y nm x ∧ Kp as δ') Wx) (t K cn Wx) (as ++ pad) (RetD as Φ (.d .non)) (RetD as Φ) (fun _ => False) (fun _ => False)
theorem liftX_WsC {Fx : PySem.W.Frag → Cn → Prop} {K : PySem.W.Frag} {cn : Cn} {S : SpX} {t : PySem.W.Frag → Cn → WX → TS} {n m : Nat} {N : List Str} {vs : List V} {H : Hp} {Q : VK} {X : XK} (fx : Fx K cn) (hl : ∀ as Φ Y, S as Φ Y → as.length = n) (hm : N.length = n + m)
    (hb : WsXC (Fx := Fx) S t (List.replicate m .no)) (h : liftX K cn S vs H Q X) : t K cn (fun cls d _ H => X cls d H) { nx := fun _ H' => Q .non H', rt := Q } (L2.start N vs) H := by
  obtain ⟨B, G, as, F, hS⟩ := h
  have ha := hl as _ _ hS
  have hv : as.length = vs.length := by have e := F.sl.len; simpa using e.symm
  have ow : owned (as ++ List.replicate m .no) = owned as := by rw [owned_append, owned_no, List.append_nil]
  have F0 : Frame K B G H (L2.start N vs) (as ++ List.replicate m .no) := by
    refine ⟨F.exB, F.exG, F.dis, ?_, by rw [ow]; exact F.own, by rw [ow]; exact F.nd⟩
    unfold L2.start
    refine F.sl.append ?_
    have z := SlsR.nos (K := K) (G := G) (H := H) (List.replicate (N.length - vs.length) none)
    rw [List.length_replicate, show N.length - vs.length = m by omega] at z
    rw [show N.length - vs.length = m by omega]
    exact z
  have back : ∀ (δ' : List Sl) (σ' : L2.St) (G' H' : Hp), parOk as δ' → Ex G G' → Frame K B G' H' σ' δ' → Frame K B G' H' (vs.map some) (parBack as δ') := fun δ' σ' G' H' ok e F' =>
    ⟨F'.exB, F'.exG, F'.dis, par_sl F.sl ok F'.sl e, fun a ha => F'.own a ((parBack_sub ok).subset ha), F'.nd.sublist (parBack_sub ok)⟩
  refine hb K cn _ as _ _ fx hS B G H (L2.start N vs) _ F0 (fun nm x δ' σ' d v G' H' q eG F' hd hr => q.1 d v G' H' eG (by
    rw [← q.2.2]
    exact ⟨F'.exB, F'.exG, F'.dis, par_sl (lose_sl F.sl) q.2.1 F'.sl eG, fun a ha => F'.own a ((parBack_sub q.2.1).subset ha), F'.nd.sublist (parBack_sub q.2.1)⟩) hd hr) ⟨fun δ' σ' G' H' q eG F' => ?_, fun r δ' v σ' G' H' q eG F' rv => ?_, fun _ _ _ _ q => q.elim, fun _ _ _ _ q => q.elim⟩
  · exact q.2 .non G' H' eG (back δ' σ' G' H' q.1 eG F') (rep_non (K := K) (G := G'))
  · obtain ⟨ok, q⟩ := q
    match r, q, rv with
    | .d x, q, rv => exact q v G' H' eG (back δ' σ' G' H' ok eG F') rv
    | .own a x, q, rv =>
      obtain ⟨e1, h1, h2, h3, h4⟩ := rv
      exact q v G' H' eG (back δ' σ' G' H' ok eG F') ⟨e1, h1, h2, h3, fun z => h4 ((parBack_sub ok).subset z)⟩
    | .deep a x gs, q, rv =>
      obtain ⟨e1, h1, h2, h3, h4⟩ := rv
      exact q v G' H' eG (back δ' σ' G' H' ok eG F') ⟨e1, h1, h2, fun b hb => ⟨(h3 b hb).1, (h3 b hb).2.1, fun z => (h3 b hb).2.2 ((parBack_sub ok).subset z)⟩, h4⟩
    | .bor i a, q, rv =>
      obtain ⟨hi, r', ex, q⟩ := q
      exact q v G' H' eG (back δ' σ' G' H' ok eG F') (outR_rv F' ok hi ex rv.1).1
theorem lift_WsC {Fx : PySem.W.Frag → Cn → Prop} {K : PySem.W.Frag} {cn : Cn} {S : SpD} {t : PySem.W.Frag → Cn → TS} {n m : Nat} {Nm : List Str} {vs : List V} {H : Hp} {Q : VK} {X : XK} (fx : Fx K cn) (hl : ∀ as Φ, S as Φ → as.length = n) (hm : Nm.length = n + m)
    (hb : WsC (Fx := Fx) S t (List.replicate m .no)) (h : lift K S vs H Q X) : t K cn { nx := fun _ H' => Q .non H', rt := Q } (L2.start Nm vs) H := lift_W h fun as Φ hS => by
  have e : Nm.length - as.length = m := by rw [hl as Φ hS, hm]; omega
  rw [e]
  exact hb K cn as Φ fx hS
/-- a call of a def that may raise, where it does not -/
theorem we_callX0 {c : Cd} {cn : Cn} {p : Bool} {δ : List Sl} {S : SpX} {tr : TA} {X : XK} {Φ : R → List Sl → Prop} (h : WA c p tr δ fun rs δ1 => ∃ ds : List DL.D, rs = ds.map DL.R.d ∧
    ∀ (P : R → List Sl → Prop) (Y : Nat → D → Prop), (∀ r as', ownOut r → Φ r δ1 → P r as') → S (ds.map Sl.d) P Y) : WE c p (tCall (liftX c.K cn S) [] X tr) δ Φ := by
  intro B G H σ Q F x k
  refine h B G H σ _ F x fun rs δ1 vs G1 H1 w e1 F1 rv p1 => ?_
  obtain ⟨ds, e, hS⟩ := w
  subst e
  show liftX c.K cn S (vs ++ []) H1 Q X
  rw [List.append_nil]
  refine ⟨wall G1 H1, G1, ds.map Sl.d, wall_frame F1 (slsR_datas rv) (owned_datas ds), hS _ _ fun r as' ho q v G' H' eG F' rv' => ?_⟩
  refine k r δ1 v G' H' q (e1.trans eG) (wall_back F1 eG F'.exB F'.exG F'.dis) ?_ fun hp => ⟨(p1 hp).1, (p1 hp).2.trans fun b o hb => ?_⟩
  case refine_2 =>
    cases g : G1 b with
    | none => exact F'.exB b o (wall_some hb g)
    | some u =>
      have h1 := F1.exG b u g
      rw [hb] at h1
      cases h1
      exact F'.exG b o (eG b o g)
  match r, rv', ho with
  | .d y, rv', _ => exact rv'
  | .own a y, rv', _ =>
    obtain ⟨q1, q2, q3, q4, q5⟩ := rv'
    obtain ⟨n1, n2⟩ := wall_new F1 eG q3 q4
    exact ⟨q1, q2, n1, q4, n2⟩
  | .deep a y gs, rv', _ =>
    obtain ⟨q1, q2, q3, q4, q5⟩ := rv'
    exact ⟨q1, q2, q3, fun b hb => ⟨(wall_new F1 eG (q4 b hb).1 (q4 b hb).2.1).1, (q4 b hb).2.1, (wall_new F1 eG (q4 b hb).1 (q4 b hb).2.1).2⟩, q5⟩
end DL
namespace DL
open PySem PySem.Spec PyProof.Rows L2
open Evl (Ex)
theorem we_cp {c : Cd} {p : Bool} {δ : List Sl} {a : Addr} {Φ : R → List Sl → Prop} (q : Φ (.d (.ptr a)) δ) : WE c p (tC (.ref a)) δ Φ := fun B G H σ Q F xr k =>
  k _ δ _ G H q (Ex.refl G) F (by show Rep c.K G (.ptr a) (.ref a); unfold Rep; rfl) fun _ => ⟨rfl, Ex.refl H⟩
section
variable {K : PySem.W.Frag} {cn : Cn} {Ψ : Nat → D → List Sl → Prop} {Wx : WX} {δ : List Sl} {N B C : List Sl → Prop} {Rt : R → List Sl → Prop}
theorem w_raiseN {nm : Nat} {f : Str} {ta : TA} (T : ExcAll K (cn.ad nm) (cn.fl nm)) (hf : cn.fl nm = [f]) (h : WA (cX K cn Ψ Wx) false ta δ fun rs δ1 => ∃ x, rs = [.d x] ∧ Ψ nm x δ1) :
    W (cX K cn Ψ Wx) (fun _ σ H => tMkO (cn.ad nm) (spInit K [f]) [] ta σ H fun cls d H' => Wx cls d σ H') δ N Rt B C := by
  have z := ws_raise (E := ⟨N, Rt, B, C⟩) (nm := nm) (ta := ta) (δ := δ) (Ψ := Ψ) (W := Wx) rfl T.oex T.fno (fun B G H σ Q F x k => h B G H σ Q F x fun rs δ' vs G' H' w => by
    obtain ⟨y, e, q⟩ := w
    exact k rs δ' vs G' H' ⟨[y], y, e, by rw [hf]; rfl, by simp, by rw [hf]; rfl, q⟩)
  rw [hf] at z
  exact z
theorem w_raise2 {nm : Nat} {f g : Str} {ta : TA} (T : ExcAll K (cn.ad nm) (cn.fl nm)) (hf : cn.fl nm = [g, f]) (h : WA (cX K cn Ψ Wx) false ta δ fun rs δ1 => ∃ x y, rs = [.d x, .d y] ∧ Ψ nm (.tup [x, y]) δ1) :
    W (cX K cn Ψ Wx) (fun _ σ H => tMkO (cn.ad nm) (spInit K [g, f]) [] ta σ H fun cls d H' => Wx cls d σ H') δ N Rt B C := by
  have z := ws_raise (E := ⟨N, Rt, B, C⟩) (nm := nm) (ta := ta) (δ := δ) (Ψ := Ψ) (W := Wx) rfl T.oex T.fno (fun B G H σ Q F x k => h B G H σ Q F x fun rs δ' vs G' H' w => by
    obtain ⟨y, y2, e, q⟩ := w
    exact k rs δ' vs G' H' ⟨[y, y2], .tup [y, y2], e, by rw [hf]; rfl, by simp, by rw [hf]; rfl, q⟩)
  rw [hf] at z
  exact z
theorem w_try' {i : Nat} {tb : WX → TS} {ts : Addr → Value → Option Addr → TS} {cE : Value} (Ψ : Nat → D → List Sl → Prop) (hb : ∀ Wx : WX, W (cX K cn Ψ Wx) (tb Wx) δ N Rt B C)
    (hs : ∀ nm x δ', Ψ nm x δ' → PySem.W.exmOne K (.ref (cn.ad nm)) cE = some true ∧ ∀ (a d : Addr), W (cS K d (xfs (cn.fl nm) x)) (ts a (.ref (cn.ad nm)) (some d)) (δ'.set i (.d (.ptr a))) (fun δ3 => N (δ3.set i .no)) Rt (fun δ3 => B (δ3.set i .no)) (fun δ3 => C (δ3.set i .no))) :
    W (c0 K) (fun D σ H => tb (wAs K cE i ts (fun _ _ _ _ => False) D) D σ H) δ N Rt B C := ws_try (Ψ := Ψ) hb hs
end
end DL
namespace DL
open PySem PySem.Spec PyProof.Rows L2
/-- try: .. except (the class cE) as the i-th name: .. -/
def tTry (K : PySem.W.Frag) (cE : Value) (i : Nat) (tb : WX → TS) (ts : Addr → Value → Option Addr → TS) : TS := fun D σ H => tb (wAs K cE i ts (fun _ _ _ _ => False) D) D σ H
theorem w_try {K : PySem.W.Frag} {cn : Cn} {δ : List Sl} {N B C : List Sl → Prop} {Rt : R → List Sl → Prop} {i : Nat} {tb : WX → TS} {ts : Addr → Value → Option Addr → TS} {cE : Value} (Ψ : Nat → D → List Sl → Prop) (hb : ∀ Wx : WX, W (cX K cn Ψ Wx) (tb Wx) δ N Rt B C)
    (hs : ∀ nm x δ', Ψ nm x δ' → PySem.W.exmOne K (.ref (cn.ad nm)) cE = some true ∧ ∀ (a d : Addr), W (cS K d (xfs (cn.fl nm) x)) (ts a (.ref (cn.ad nm)) (some d)) (δ'.set i (.d (.ptr a))) (fun δ3 => N (δ3.set i .no)) Rt (fun δ3 => B (δ3.set i .no)) (fun δ3 => C (δ3.set i .no))) :
    W (c0 K) (tTry K cE i tb ts) δ N Rt B C := w_try' Ψ hb hs
end DL

/-! DL16: try with several clauses, each with or without a name. -/
namespace DL
open PySem PySem.Spec PyProof.Rows L2
/-- one clause: its class, its name's slot, its suite -/
abbrev Cl := Value × Option Nat × (Addr → Value → Option Addr → TS)
def goneE (i : Nat) (D : Ends) : Ends := { nx := fun σ' H' => D.nx (σ'.set i none) H', rt := D.rt, bk := fun σ' H' => D.bk (σ'.set i none) H', ct := fun σ' H' => D.ct (σ'.set i none) H' }
def suW (o : Option Nat) (ts : Addr → Value → Option Addr → TS) (a : Addr) (cls : Value) (d : Option Addr) (D : Ends) (σ : L2.St) (H : Hp) : Prop := match o with
  | none => ts a cls d D σ H
  | some i => ts a cls d (goneE i D) (σ.set i (some (.ref a))) H
def wMix (K : PySem.W.Frag) (Wo : WX) (D : Ends) : List Cl → WX
  | [] => Wo
  | (c, o, ts) :: r => fun cls d σ H => ∃ b, PySem.W.exmOne K cls c = some b ∧ (b = true → ∀ a, H a = none → suW o ts a cls d D σ H) ∧ (b = false → wMix K Wo D r cls d σ H)
inductive ClsOk (X : Cx) : List ExceptHandler → List Cl → Prop
  | nil : ClsOk X [] []
  | bare {x : Str} {c : Value} {ts : Addr → Value → Option Addr → TS} {b0 : Stmt} {su : List Stmt} {p1 p2 : Pos} {hs : List ExceptHandler} {l : List Cl} (hc : Names X x c)
      (hsu : ∀ (a : Addr) (oe : Obj) (cls : Value) (d : Option Addr) (pn : List (Addr × Obj)), Zc cls d oe → (∃ vs, oe.data = .fields vs) → PSs (X.suite a ((a, oe) :: pn)) (b0 :: su) (ts a cls d)) (r : ClsOk X hs l) :
      ClsOk X (.ExceptHandler (some (.Name x p1)) none (b0 :: su) p2 :: hs) ((c, none, ts) :: l)
  | named {x n : Str} {c : Value} {i : Nat} {ts : Addr → Value → Option Addr → TS} {b0 : Stmt} {su : List Stmt} {p1 p2 : Pos} {hs : List ExceptHandler} {l : List Cl} (hc : Names X x c) (hN : X.N.Nodup) (hi : X.N[i]? = some n) (hln : X.env.kindOf n = some .local)
      (hsu : ∀ (a : Addr) (oe : Obj) (cls : Value) (d : Option Addr) (pn : List (Addr × Obj)), Zc cls d oe → (∃ vs, oe.data = .fields vs) → PSs (X.suite a ((a, oe) :: pn)) (b0 :: su) (ts a cls d)) (r : ClsOk X hs l) :
      ClsOk X (.ExceptHandler (some (.Name x p1)) (some n) (b0 :: su) p2 :: hs) ((c, some i, ts) :: l)
theorem ps_tryMix {X : Cx} {bo : List Stmt} {h0 : ExceptHandler} {hs : List ExceptHandler} {l : List Cl} {pos : Pos} {tb : WX → TS} {Wo : WX} (hst : X.stack = X.env :: X.outer) (hf : X.env.frame = some X.env.locals) (tk : Takes X Wo)
    (hb : ∀ (W : WX) (pn : List (Addr × Obj)) (xe : Value → Shared → Prop), Takes (X.tr pn xe) W → PassesOwn (model X.prog X.w) X.A X.env xe → PSs (X.tr pn xe) bo (tb W))
    (hh : ClsOk X (h0 :: hs) l) : PS X (.Try bo (h0 :: hs) [] [] pos) (fun D σ H => tb (wMix X.K Wo D l) D σ H) := by
  refine ⟨fun pins s σ H D I h => ?_⟩
  have ok := I.ok
  have hfr : X.A.frames = some (X.env :: X.outer) := by rw [ok.frames, hst]
  refine wpAny_Try_except ?_
  refine wpAny_mono ((hb (wMix X.K Wo D l) (X.pn ++ pins) (fun e z1 => wpAny (model X.prog X.w) X.A (noteFrame e X.env) (fun _ z2 => wpAny (model X.prog X.w) X.A (setFlight e none) (fun _ z3 =>
    wpAny (model X.prog X.w) X.A (handleBy e X.env (h0 :: hs)) (SP X pins D) X.xe z3) X.xe z2) X.xe z1) (fun u s' xx => ?_) PassesOwn.looking).run [] s σ H D (I.toTry _) h) (fun f s1 hsp => ?_) (fun e s1 he => he)
  · obtain ⟨a, B, sI, pins', σ', H', cls, d, rfl, Jt, nb, up, sky, na, os, ag, w⟩ := xx
    have J : Inv X pins σ' H' sI := Jt.ofTry ok
    have skz : Sky B (X.env :: X.outer) a (Zc cls d) X.env.locals s'.heap := by rw [← hst]; exact sky
    show wpAny (model X.prog X.w) X.A (noteFrame (.ref a) X.env) _ _ _
    refine Sky.land Zc.steady hfr hf skz fun h3 fl3 up3 => ?_
    have J3 : Inv X pins σ' H' { s' with heap := h3 } := J.landed nb fl3.1 (up.trans up3) os ag
    obtain ⟨oe3, vs3, he3, hz3, hd3⟩ := fl3.there
    have offF : ∀ {h : Heap} {o : Obj} {vs : Array Value}, h.FunFrames B (X.env :: X.outer) → h.get? a = some o → o.data = .fields vs → a ∉ frs (X.env :: X.outer) := fun {h o vs} ff e dd hm => by
      obtain ⟨_, o', e', hnf⟩ := ff.mem hm
      rw [e] at e'; cases e'
      exact hnf _ dd
    have nfr := offF fl3.2.2.1 he3 hd3
    have nL : a ≠ X.env.locals := fun z => nfr (List.mem_filterMap.mpr ⟨X.env, List.mem_cons_self, by rw [hf, z]⟩)
    have nF : a ∉ X.fs := fun hm => by
      obtain ⟨e, he, q⟩ := List.mem_filterMap.mp hm
      exact nfr (List.mem_filterMap.mpr ⟨e, List.mem_cons_of_mem _ he, q⟩)
    have S3 := J3.suite he3 hd3 na nL nF
    have LT : PySem.W.Looks (model X.prog X.w) h3 (typeOf (.ref a)) cls := fun A Q E s k q => wpAny_typeOf_ref (k _ _ he3) (by rw [hz3.1]; exact q)
    have test : ∀ {x : Str} {c : Value} {p1 : Pos}, Names X x c → ∀ {Q : Value → Shared → Prop} {E : Value → Shared → Prop}, Q c { s' with heap := h3 } → wpAny (model X.prog X.w) (X.A.mark (some (.ref a))) (eval (.Name x p1) X.env) Q E { s' with heap := h3 } := by
      intro x c p1 hc Q E q
      obtain ⟨hg, hdbg, hm | ⟨hm, hv, hnn⟩⟩ := hc
      · exact ld_glob (X := X.suite a ((a, oe3) :: (X.pn ++ pins))) S3 hg hm q hdbg
      · exact ld_blt (X := X.suite a ((a, oe3) :: (X.pn ++ pins))) S3 hg hm hv q hnn hdbg
    have go : ∀ {hs' : List ExceptHandler} {l' : List Cl}, ClsOk X hs' l' → wMix X.K Wo D l' cls d σ' H' →
        wpAny (model X.prog X.w) X.A (handleBy (.ref a) X.env hs') (SP X pins D) X.xe { s' with heap := h3 } := by
      intro hs' l' hk
      induction hk with
      | nil =>
        intro w
        refine wpAny_handleBy_nil ?_
        obtain ⟨k1, k2, k3, oe, vs, T, oT, ts', he, hz, hd, h1, hr⟩ := id fl3
        unfold PySem.passOn
        refine wpAny_bind (wpAny_field he hd h1 ?_)
        rw [if_neg (show ¬ ((Value.ref T == Value.none) = true) from by simp)]
        have fin : wpAny (model X.prog X.w) X.A (setFlight (.ref a) X.env.frame) (fun _ s4 => wpAny (model X.prog X.w) X.A (throw (.ref a) : Sem Flow) (SP X pins D) X.xe s4) X.xe { s' with heap := h3 } := by
          rw [hf]
          refine HandSPX.setFlight_upZ fl3 fun h4 hh4 up4 => wpAny_throw (tk _ _ ?_)
          exact ⟨a, B, sI, pins, σ', H', cls, d, rfl, J, nb, (up.trans up3).trans up4, .inr (.inr (by rw [hst]; exact hh4)), na, os, ag, w⟩
        first
          | exact wpAny_bind (wpAny_pure (wpAny_bind fin))
          | exact wpAny_bind fin
      | @bare x c ts b0 su p1 p2 hs2 l2 hc hsu r ih =>
        intro w
        obtain ⟨b, hb1, hyes, hno⟩ := w
        refine wpAny_handleBy_cons (codeAny_handlers_test ?_) (by intro q; cases q)
        have LM := PySem.W.exm_one (M := model X.prog X.w) (J3.kIn) LT hb1
        refine test hc (LM.here ?_)
        cases b with
        | true =>
          refine codeAny_handlers_suite ?_
          refine HandSPX.lands_againZ fl3 fun h4 fl4 up4 => ?_
          have J4 : Inv X pins σ' H' { s' with heap := h4 } := J.landed nb fl4.1 ((up.trans up3).trans up4) os ag
          obtain ⟨oe4, vs4, he4, hz4, hd4⟩ := fl4.there
          have S4 := J4.suite he4 hd4 na nL nF
          have W4 : ts a cls d D σ' H' := hyes rfl a na
          refine wpAny_mono ((hsu a oe4 cls d (X.pn ++ pins) hz4 ⟨_, hd4⟩).run [] _ _ H' _ S4 W4) (fun f s6 hsp => ?_) (fun _ _ z => False.elim z)
          cases f with
          | ret u =>
            obtain ⟨v6, σ6, H6, S6, r6, q6⟩ := hsp
            exact ⟨_, _, _, S6.unsuite ok, r6, q6⟩
          | next => exact let ⟨_, _, S6, q6⟩ := hsp; ⟨_, _, S6.unsuite ok, q6⟩
          | brk => exact let ⟨_, _, S6, q6⟩ := hsp; ⟨_, _, S6.unsuite ok, q6⟩
          | cont => exact let ⟨_, _, S6, q6⟩ := hsp; ⟨_, _, S6.unsuite ok, q6⟩
        | false =>
          show wpAny _ X.A (handleBy (.ref a) X.env hs2) _ _ _
          exact ih (hno rfl)
      | @named x n c i ts b0 su p1 p2 hs2 l2 hc hN hi hln hsu r ih =>
        intro w
        obtain ⟨b, hb1, hyes, hno⟩ := w
        refine wpAny_handleBy_cons (codeAny_handlers_test ?_) (by intro q; cases q)
        have LM := PySem.W.exm_one (M := model X.prog X.w) (J3.kIn) LT hb1
        refine test hc (LM.here ?_)
        cases b with
        | true =>
          refine codeAny_handlers_suite_as ?_
          refine HandSPX.lands_againZ fl3 fun h4 fl4 up4 => ?_
          have J4 : Inv X pins σ' H' { s' with heap := h4 } := J.landed nb fl4.1 ((up.trans up3).trans up4) os ag
          obtain ⟨oe4, vs4, he4, hz4, hd4⟩ := fl4.there
          have S4 := J4.suite he4 hd4 na nL nF
          refine store_ok (X := X.suite a ((a, oe4) :: (X.pn ++ pins))) (v := .ref a) S4 hN hi (.inl hln) rfl (fun s5 S5 => ?_) (.inr hln)
          have W4 : ts a cls d (goneE i D) (σ'.set i (some (.ref a))) H' := hyes rfl a na
          refine wpAny_mono ((hsu a oe4 cls d (X.pn ++ pins) hz4 ⟨_, hd4⟩).run [] s5 _ H' _ S5 W4) (fun f s6 hsp => ?_) (fun _ _ z => False.elim z)
          have gone : ∀ {σ6 : L2.St} {H6 : Hp} {Q : Shared → Prop}, Inv (X.suite a ((a, oe4) :: (X.pn ++ pins))) [] σ6 H6 s6 → (∀ s7, Inv X pins (σ6.set i none) H6 s7 → Q s7) →
              wpAny (model X.prog X.w) X.A (do bindName X.env n .none; unbindBehindTheSuite X.env n p2) (fun _ s7 => Q s7) X.xe s6 := fun {σ6 H6 Q} S6 hq => gone_ok (S6.unsuite ok) hN hi hln hq
          cases f with
          | ret u =>
            obtain ⟨v6, σ6, H6, S6, r6, q6⟩ := hsp
            exact gone S6 fun s7 J7 => ⟨_, _, _, J7, r6, q6⟩
          | next =>
            obtain ⟨σ6, H6, S6, q6⟩ := hsp
            exact gone S6 fun s7 J7 => ⟨_, _, J7, q6⟩
          | brk =>
            obtain ⟨σ6, H6, S6, q6⟩ := hsp
            exact gone S6 fun s7 J7 => ⟨_, _, J7, q6⟩
          | cont =>
            obtain ⟨σ6, H6, S6, q6⟩ := hsp
            exact gone S6 fun s7 J7 => ⟨_, _, J7, q6⟩
        | false =>
          show wpAny _ X.A (handleBy (.ref a) X.env hs2) _ _ _
          exact ih (hno rfl)
    exact go hh w
  · cases f with
    | ret u =>
      obtain ⟨v, σ', H', Jt, r, q⟩ := hsp
      exact ⟨v, σ', H', Jt.ofTry ok, r, q⟩
    | next => exact wpAny_execs_nil (let ⟨σ', H', Jt, q⟩ := hsp; ⟨σ', H', Jt.ofTry ok, q⟩)
    | brk => exact let ⟨σ', H', Jt, q⟩ := hsp; ⟨σ', H', Jt.ofTry ok, q⟩
    | cont => exact let ⟨σ', H', Jt, q⟩ := hsp; ⟨σ', H', Jt.ofTry ok, q⟩
/-- try: .. except: .. except: .. -/
def tTryM (K : PySem.W.Frag) (l : List Cl) (tb : WX → TS) : TS := fun D σ H => tb (wMix K (fun _ _ _ _ => False) D l) D σ H
section
variable {K : PySem.W.Frag} {cn : Cn}
/-- the clauses, one after the other, at an exception of the class nm with the found data x -/
def Caught (K : PySem.W.Frag) (cn : Cn) (nm : Nat) (x : D) (δ : List Sl) (E : En) : List Cl → Prop
  | [] => False
  | (c, o, ts) :: r => ∃ b, PySem.W.exmOne K (.ref (cn.ad nm)) c = some b ∧
      (b = true → ∀ (a d : Addr), match o with
        | none => WS (cS K d (xfs (cn.fl nm) x)) (ts a (.ref (cn.ad nm)) (some d)) δ E
        | some i => WS (cS K d (xfs (cn.fl nm) x)) (ts a (.ref (cn.ad nm)) (some d)) (δ.set i (.d (.ptr a))) ⟨fun δ3 => E.nx (δ3.set i .no), E.rt, fun δ3 => E.bk (δ3.set i .no), fun δ3 => E.ct (δ3.set i .no)⟩) ∧
      (b = false → Caught K cn nm x δ E r)
theorem ws_tryM {l : List Cl} {δ : List Sl} {tb : WX → TS} {Ψ : Nat → D → List Sl → Prop} {E : En} (hb : ∀ W : WX, WS (cX K cn Ψ W) (tb W) δ E)
    (hs : ∀ nm x δ', Ψ nm x δ' → Caught K cn nm x δ' E l) : WS (c0 K) (tTryM K l tb) δ E := by
  intro B G H σ Dn F x hE
  refine hb _ B G H σ Dn F (fun nm y δ' σ' d v G' H' q eG F' hd hr => ?_) ⟨hE.nx, hE.rt, hE.bk, hE.ct⟩
  have go : ∀ l : List Cl, Caught K cn nm y δ' E l → wMix K (fun _ _ _ _ => False) Dn l (.ref (cn.ad nm)) (some d) σ' H' := by
    intro l
    induction l with
    | nil => exact fun h => h.elim
    | cons c r ih =>
      obtain ⟨c, o, ts⟩ := c
      rintro ⟨b, h1, h2, h3⟩
      refine ⟨b, h1, fun z a ha => ?_, fun z => ih (h3 z)⟩
      have h4 := h2 z a d
      cases o with
      | none =>
        exact h4 B G' H' _ _ F' ⟨v, hd, hr⟩ ⟨fun δ3 σ3 G3 H3 w e F3 => hE.nx _ _ G3 H3 w (eG.trans e) F3, fun r δ3 u σ3 G3 H3 w e F3 rv => hE.rt r δ3 u σ3 G3 H3 w (eG.trans e) F3 rv,
          fun δ3 σ3 G3 H3 w e F3 => hE.bk _ _ G3 H3 w (eG.trans e) F3, fun δ3 σ3 G3 H3 w e F3 => hE.ct _ _ G3 H3 w (eG.trans e) F3⟩
      | some i =>
        have Fs : Frame K B G' H' (σ'.set i (some (.ref a))) (δ'.set i (.d (.ptr a))) := frame_set (r := .d (.ptr a)) F' (by show Rep K G' (.ptr a) (.ref a); unfold Rep; rfl) rfl
        refine h4 B G' H' _ _ Fs ⟨v, hd, hr⟩ ⟨fun δ3 σ3 G3 H3 w e F3 => ?_, fun r δ3 u σ3 G3 H3 w e F3 rv => hE.rt r δ3 u σ3 G3 H3 w (eG.trans e) F3 rv, fun δ3 σ3 G3 H3 w e F3 => ?_, fun δ3 σ3 G3 H3 w e F3 => ?_⟩
        · exact hE.nx _ _ G3 H3 w (eG.trans e) (frame_wipe F3 [i])
        · exact hE.bk _ _ G3 H3 w (eG.trans e) (frame_wipe F3 [i])
        · exact hE.ct _ _ G3 H3 w (eG.trans e) (frame_wipe F3 [i])
  exact go l (hs nm y δ' q)
theorem w_tryM {δ : List Sl} {N B C : List Sl → Prop} {Rt : R → List Sl → Prop} {l : List Cl} {tb : WX → TS} (Ψ : Nat → D → List Sl → Prop) (hb : ∀ Wx : WX, W (cX K cn Ψ Wx) (tb Wx) δ N Rt B C)
    (hs : ∀ nm x δ', Ψ nm x δ' → Caught K cn nm x δ' ⟨N, Rt, B, C⟩ l) : W (c0 K) (tTryM K l tb) δ N Rt B C := ws_tryM (Ψ := Ψ) hb hs
/-- the first clause takes it, it has a name -/
theorem caught_as {nm : Nat} {x : D} {δ : List Sl} {N B C : List Sl → Prop} {Rt : R → List Sl → Prop} {c : Value} {i : Nat} {ts : Addr → Value → Option Addr → TS} {r : List Cl} (h1 : PySem.W.exmOne K (.ref (cn.ad nm)) c = some true)
    (h2 : ∀ (a d : Addr), W (cS K d (xfs (cn.fl nm) x)) (ts a (.ref (cn.ad nm)) (some d)) (δ.set i (.d (.ptr a))) (fun δ3 => N (δ3.set i .no)) Rt (fun δ3 => B (δ3.set i .no)) (fun δ3 => C (δ3.set i .no))) :
    Caught K cn nm x δ ⟨N, Rt, B, C⟩ ((c, some i, ts) :: r) := ⟨true, h1, fun _ a d v => h2 a d v, fun z => nomatch z⟩
theorem caught_no {nm : Nat} {x : D} {δ : List Sl} {N B C : List Sl → Prop} {Rt : R → List Sl → Prop} {c : Value} {ts : Addr → Value → Option Addr → TS} {r : List Cl} (h1 : PySem.W.exmOne K (.ref (cn.ad nm)) c = some true)
    (h2 : ∀ (a d : Addr), W (cS K d (xfs (cn.fl nm) x)) (ts a (.ref (cn.ad nm)) (some d)) δ N Rt B C) :
    Caught K cn nm x δ ⟨N, Rt, B, C⟩ ((c, none, ts) :: r) := ⟨true, h1, fun _ a d v => h2 a d v, fun z => nomatch z⟩
theorem caught_next {nm : Nat} {x : D} {δ : List Sl} {N B C : List Sl → Prop} {Rt : R → List Sl → Prop} {c : Value} {o : Option Nat} {ts : Addr → Value → Option Addr → TS} {r : List Cl} (h1 : PySem.W.exmOne K (.ref (cn.ad nm)) c = some false)
    (h2 : Caught K cn nm x δ ⟨N, Rt, B, C⟩ r) : Caught K cn nm x δ ⟨N, Rt, B, C⟩ ((c, o, ts) :: r) := ⟨false, h1, fun z => (nomatch z), fun _ => h2⟩
end
end DL
namespace DL
open PySem PySem.Spec PyProof.Rows L2
open Evl (Ex)
/-- a class as a value: one of the text's, or a built-in one -/
inductive ClsV : V → Value → Prop
  | ref (C : Addr) : ClsV (.ref C) (.ref C)
  | ty (n : String) : ClsV (.ty n) (.type n)
theorem ClsV.rel {v : V} {u u' : Value} (h : ClsV v u) (r : RelV v u') : u' = u := by
  cases h with
  | ref C => exact r
  | ty n => exact r
/-- isinstance(e, C), e what the suite holds -/
def rIsG (K : PySem.W.Frag) (a : Addr) (cls : Value) (d : Option Addr) : List V → Hp → VK → Prop := fun xs H Q => ∃ f C dd v2 u2 b fs, cls = .ref C ∧ d = some dd ∧ ExcAll K C f ∧ xs = [.ref a, v2] ∧ ClsV v2 u2 ∧ H dd = some (.xd fs) ∧ PySem.W.kitOne K (.ref C) u2 = some b ∧ Q (.bl b) H
theorem call_isG {X : Cx} {a : Addr} {cls : Value} {d : Option Addr} {oe : Obj} {pn : List (Addr × Obj)} (hz : Zc cls d oe) (hf : ∃ vs, oe.data = .fields vs) : CallR (X.suite a ((a, oe) :: pn)) (.builtin "isinstance") (rIsG X.K a cls d) := by
  intro pins s σ H xs us Q I r h
  obtain ⟨f, C, dd, v2, w2, b, fs, ec, ed, T, e, hv, hd, hk, q⟩ := h
  subst ec ed e
  obtain ⟨u1, u2, eu, r1, r2⟩ := vals2 r
  subst eu
  have e1 : u1 = .ref a := r1
  have e2 := hv.rel r2
  subst e1 e2
  obtain ⟨hget, _⟩ := I.pin (a, oe) (List.mem_append_left _ List.mem_cons_self)
  obtain ⟨vs, hv'⟩ := hf
  obtain ⟨mA, hns, _⟩ := (show ObjOk X.prog X.w H s.heap dd (.xd fs) from I.hok dd _ hd)
  obtain ⟨od, ho, _⟩ := lookIn_ns hns
  have J : PySem.W.InstAt s.heap a oe C (some od) := ⟨hget, hz.1, by unfold PySem.W.notCls; rw [hv'] <;> rfl, by rw [hz.2]; exact ho⟩
  exact PySem.W.kia_one (PySem.W.kitx_exc T.hcl T.xf.ga T.xf.gg T.xf.exC T.hat T.hn T.htk T.hm) I.kIn J hk (fun z => nomatch z) fun tk => ⟨.bl b, H, I.kept (t' := tk) fun _ _ z => z, rfl, q⟩
section
variable {K : PySem.W.Frag} {p : Bool} {δ : List Sl} {a d C : Addr} {f : List Str} {fs : List (Str × D)} {x : D} {tr : TA} {Φ : R → List Sl → Prop}
theorem we_isG (T : ExcAll K C f) (h : WA (cS K d fs) p tr δ fun rs δ1 => ∃ (y : D) (b : Bool), rs = [.d (.ptr a), .d y] ∧ ((∃ C', y = .ptr C' ∧ PySem.W.kitOne K (.ref C) (.ref C') = some b) ∨ (∃ n, y = .ty n ∧ PySem.W.kitOne K (.ref C) (.type n) = some b)) ∧ Φ (.d (.bl b)) δ1) :
    WE (cS K d fs) p (tCB (rIsG K a (.ref C) (some d)) tr) δ Φ := by
  intro B G H σ Q F xr k
  refine h B G H σ _ F xr fun rs δ1 vs G1 H1 w e1 F1 rv p1 => ?_
  obtain ⟨y, b, er, hk, w⟩ := w
  subst er
  obtain ⟨u, ur, eu, h1, u2, ur2, eu2, h2, h3⟩ := rv
  have e3 : ur2 = [] := h3
  subst e3 eu2 eu
  have q1 : u = .ref a := by
    have z : Rep K G1 (.ptr a) u := h1
    unfold Rep at z
    exact z
  subst q1
  have fin := k _ δ1 _ G1 H1 w e1 F1 (rep_bl (K := K) (G := G1)) p1
  obtain ⟨fvs, x1, _⟩ := xr
  rcases hk with ⟨C', e, hk⟩ | ⟨n, e, hk⟩
  · subst e
    have q2 : u2 = .ref C' := by
      have z : Rep K G1 (.ptr C') u2 := h2
      unfold Rep at z
      exact z
    subst q2
    exact ⟨f, C, d, _, _, b, _, rfl, rfl, T, rfl, .ref C', F1.exG d _ (e1 d _ x1), hk, fin⟩
  · subst e
    have q2 : u2 = .ty n := by
      have z : Rep K G1 (.ty n) u2 := h2
      unfold Rep at z
      exact z
    subst q2
    exact ⟨f, C, d, _, _, b, _, rfl, rfl, T, rfl, .ty n, F1.exG d _ (e1 d _ x1), hk, fin⟩
theorem we_isGp {C' : Addr} {b : Bool} (T : ExcAll K C f) (hk : PySem.W.kitOne K (.ref C) (.ref C') = some b) (h : WA (cS K d fs) p tr δ fun rs δ1 => rs = [.d (.ptr a), .d (.ptr C')] ∧ Φ (.d (.bl b)) δ1) : WE (cS K d fs) p (tCB (rIsG K a (.ref C) (some d)) tr) δ Φ :=
  we_isG T fun B G H σ Q F xr k => h B G H σ Q F xr fun rs δ1 vs G1 H1 w e1 F1 rv p1 => k rs δ1 vs G1 H1 ⟨_, b, w.1, .inl ⟨C', rfl, hk⟩, w.2⟩ e1 F1 rv p1
theorem we_isGt {n : String} {b : Bool} (T : ExcAll K C f) (hk : PySem.W.kitOne K (.ref C) (.type n) = some b) (h : WA (cS K d fs) p tr δ fun rs δ1 => rs = [.d (.ptr a), .d (.ty n)] ∧ Φ (.d (.bl b)) δ1) : WE (cS K d fs) p (tCB (rIsG K a (.ref C) (some d)) tr) δ Φ :=
  we_isG T fun B G H σ Q F xr k => h B G H σ Q F xr fun rs δ1 vs G1 H1 w e1 F1 rv p1 => k rs δ1 vs G1 H1 ⟨_, b, w.1, .inr ⟨n, rfl, hk⟩, w.2⟩ e1 F1 rv p1
end
end DL
namespace DL
open PySem PySem.Spec PyProof.Rows L2
section
variable {c : Cd} {δ : List Sl} {N B C : List Sl → Prop} {Rt : R → List Sl → Prop} {tt : TT} {t : TS}
/-- a loop, its end told by P -/
theorem w_whileP (P : List Sl → Prop) (I : Nat → List Sl → Prop) (n : Nat) (h0 : I n δ) (hs : ∀ m δ', I m δ' → WT c false tt δ' fun b δ2 => (b = true → W c t δ2 (fun δ3 => ∃ m', m' < m ∧ I m' δ3) Rt P (fun δ3 => ∃ m', m' < m ∧ I m' δ3)) ∧ (b = false → P δ2)) (hN : ∀ δ2, P δ2 → N δ2) : W c (tWhile tt t) δ N Rt B C :=
  w_while I n h0 fun m δ' hI => wt_mono (hs m δ' hI) fun b δ2 q => ⟨fun e => w_mono (q.1 e) (fun _ x => x) (fun _ _ x => x) hN (fun _ x => x), fun e => hN _ (q.2 e)⟩
/-- what stands behind t is shown once -/
theorem w_join (P : List Sl → Prop) (h : W c t δ P Rt B C) (hN : ∀ δ2, P δ2 → N δ2) : W c t δ N Rt B C := w_mono h hN (fun _ _ x => x) (fun _ x => x) (fun _ x => x)
end
end DL
namespace DL
open PySem PySem.Spec PyProof.Rows L2
/-- a, b, .. = a tuple or a list of that length -/
def gSeq (K : PySem.W.Frag) (n : Nat) (t : TGs) : TG := fun v σ H Q => gTup K n t v σ H Q ∨ L2.gLst K n t v σ H Q
theorem pg_seq {X : Cx} {pos : Pos} {es : List Expr} {k : Nat} {t : TGs} {n : Nat} (hc : X.calm = true) (h : PGs X es t)
    (hn : (assignEach es X.env).length = n := by rfl) (hst : (assignEach es X.env).findIdx? (·.1) = none := by rfl) : PG X (.Tuple es k pos) (gSeq X.K n t) :=
  ⟨fun pins s σ H v u Q I r hw => hw.elim ((pg_tup hc h hn hst).run pins s σ H v u Q I r) ((L2.pg_lst hc h hn hst).run pins s σ H v u Q I r)⟩
section
variable {c : Cd} {δ : List Sl} {Φ : List Sl → Prop} {x y z : D} {a : Addr} {g1 g2 g3 : TG}
theorem wg_seqT {gs : TGs} {n : Nat} {xs : List D} (hn : xs.length = n) (h : WGs c gs xs δ Φ) : WG c (gSeq c.K n gs) (.d (.tup xs)) δ Φ := fun B G H σ v Q F z rv k => .inl (wg_tup hn h B G H σ v Q F z rv k)
theorem wg_seqL {gs : TGs} {n : Nat} {xs : List D} (hn : xs.length = n) (h : WGs c gs xs δ Φ) : WG c (gSeq c.K n gs) (.d (.lst xs)) δ Φ := fun B G H σ v Q F z rv k => by
  have rv' : Rep c.K G (.lst xs) v := rv
  unfold Rep at rv'
  obtain ⟨a, ys, e, h1, h2⟩ := rv'
  exact .inr ⟨a, ys, e, .inl (Rd.of (F.exG _ _ h1)), (reps_length h2).trans hn, h B G H σ ys Q F z h2 k⟩
theorem wgs2 (h : WG c g1 (.d x) δ fun δ1 => WG c g2 (.d y) δ1 Φ) : WGs c (gCons g1 (gCons g2 gNil)) [x, y] δ Φ := wgs_cons (wg_mono h fun δ1 q => wgs_cons (wg_mono q fun δ2 q2 => wgs_nil q2))
theorem wgs3 (h : WG c g1 (.d x) δ fun δ1 => WG c g2 (.d y) δ1 fun δ2 => WG c g3 (.d z) δ2 Φ) : WGs c (gCons g1 (gCons g2 (gCons g3 gNil))) [x, y, z] δ Φ := wgs_cons (wg_mono h fun δ1 q => wgs_cons (wg_mono q fun δ2 q2 => wgs_cons (wg_mono q2 fun δ3 q3 => wgs_nil q3)))
theorem wg_s2t (h : WG c g1 (.d x) δ fun δ1 => WG c g2 (.d y) δ1 Φ) : WG c (gSeq c.K 2 (gCons g1 (gCons g2 gNil))) (.d (.tup [x, y])) δ Φ := wg_seqT rfl (wgs2 h)
theorem wg_s2l (h : WG c g1 (.d x) δ fun δ1 => WG c g2 (.d y) δ1 Φ) : WG c (gSeq c.K 2 (gCons g1 (gCons g2 gNil))) (.d (.lst [x, y])) δ Φ := wg_seqL rfl (wgs2 h)
theorem wg_s2o (h : WG c g1 (.d x) δ fun δ1 => WG c g2 (.d y) δ1 Φ) : WG c (gSeq c.K 2 (gCons g1 (gCons g2 gNil))) (.own a (.lst [x, y])) δ Φ := wg_frz (wg_s2l h)
theorem wg_s3t (h : WG c g1 (.d x) δ fun δ1 => WG c g2 (.d y) δ1 fun δ2 => WG c g3 (.d z) δ2 Φ) : WG c (gSeq c.K 3 (gCons g1 (gCons g2 (gCons g3 gNil)))) (.d (.tup [x, y, z])) δ Φ := wg_seqT rfl (wgs3 h)
theorem wg_s3l (h : WG c g1 (.d x) δ fun δ1 => WG c g2 (.d y) δ1 fun δ2 => WG c g3 (.d z) δ2 Φ) : WG c (gSeq c.K 3 (gCons g1 (gCons g2 (gCons g3 gNil)))) (.d (.lst [x, y, z])) δ Φ := wg_seqL rfl (wgs3 h)
theorem wg_s3o (h : WG c g1 (.d x) δ fun δ1 => WG c g2 (.d y) δ1 fun δ2 => WG c g3 (.d z) δ2 Φ) : WG c (gSeq c.K 3 (gCons g1 (gCons g2 (gCons g3 gNil)))) (.own a (.lst [x, y, z])) δ Φ := wg_frz (wg_s3l h)
end
end DL

/-! DL17: equal data are equal, empty dicts among them. -/
namespace PySem
open Builtin
section
variable {A : Around} {s : Shared}
theorem dict_eq0 (a b : Addr) (ha : (a == sysModules) = false) (hb : (b == sysModules) = false) : Meets (Builtin.«dict.__eq__» ⟨[.ref a, .ref b], []⟩) (fun _ R s => (∃ o ep, s.heap.get? a = some o ∧ o.cls = .type "dict" ∧ o.data = .dict #[] ep) ∧ (∃ o ep, s.heap.get? b = some o ∧ o.cls = .type "dict" ∧ o.data = .dict #[] ep) ∧ R (.ok (.ret (.bool true))) s) :=
  .of_wp fun prog w A R s ⟨⟨o, ep, ho, hc, hd⟩, ⟨o2, ep2, ho2, hc2, hd2⟩, h⟩ => by
    show wpAny _ _ (Builtin.Dict.dictSlotArgs "__eq__" ⟨[.ref a, .ref b], []⟩ >>= _) _ _ s
    refine wpAny_bind ?_
    unfold Builtin.Dict.dictSlotArgs Builtin.Dict.notOrdered
    show wpAny _ _ (pure ((Value.ref a, Value.ref b) : Value × Value)) _ _ s
    refine wpAny_pure ?_
    show wpAny _ _ (isInstance (.ref b) (.type "dict") >>= _) _ _ s
    refine wpAny_bind (wpAny_isInstance (T := "dict") ⟨o2, ho2, hc2⟩ F.sub_dict_dict ?_)
    show wpAny _ _ (Builtin.Dict.addrOf (.ref a) >>= _) _ _ s
    refine wpAny_bind (wpAny_pure ?_)
    show wpAny _ _ (Builtin.Dict.addrOf (.ref b) >>= _) _ _ s
    refine wpAny_bind (wpAny_pure ?_)
    refine wpAny_bind ?_
    unfold Builtin.Dict.samePairs Builtin.Dict.showsAll
    rw [if_neg (by rw [ha]; exact Bool.false_ne_true), if_neg (by rw [hb]; exact Bool.false_ne_true)]
    refine wpAny_bind (wpAny_pure ?_)
    refine wpAny_bind (wpAny_pure ?_)
    refine wpAny_bind (wpAny_dictEntries ho hd ?_)
    refine wpAny_bind (wpAny_dictEntries ho2 hd2 ?_)
    rw [if_neg (by decide)]
    refine wpAny_bind (wpAny_dictEpoch ho hd ?_)
    refine wpAny_bind ?_
    rw [Std.Legacy.Range.forIn_eq_forIn_range']
    show wpAny _ _ (pure (none, ())) _ _ s
    refine wpAny_pure ?_
    show wpAny _ _ (pure true) _ _ s
    exact wpAny_pure (wpAny_pure ⟨_, rfl, h⟩)
theorem RcAt.dicts0 {a b : Addr} (ha : (a == sysModules) = false) (hb : (b == sysModules) = false) (hu : A.units < cLine) (h1 : ∃ o ep, s.heap.get? a = some o ∧ o.cls = .type "dict" ∧ o.data = .dict #[] ep) (h2 : ∃ o ep, s.heap.get? b = some o ∧ o.cls = .type "dict" ∧ o.data = .dict #[] ep) : SeqAt.RcAt A s (.ref a) (.ref b) true := fun prog w E Q h => by
  obtain ⟨o, ep, ho, hc, hd⟩ := id h1
  obtain ⟨o2, ep2, ho2, hc2, hd2⟩ := id h2
  exact richCompare_meets_room (op := .Eq) ⟨_, ho, hc⟩ ⟨_, ho2, hc2⟩ F.slot_dict_eq F.entry_dict_eq (F.args_dict_eq_2 _ _) (dict_eq0 a b ha hb) ⟨h1, h2, show Value.bool true ≠ Value.notImplemented ∧ Q (.bool true) s from ⟨(fun x => nomatch x), h⟩⟩ hu
open PySem.SeqAt in
mutual
/-- data with no dict but the empty one -/
def d0 : PyData → Bool
  | .none => true
  | .bool _ => true
  | .int _ => true
  | .str _ => true
  | .list xs => d0s xs
  | .tuple xs => d0s xs
  | .dict kvs => kvs.isEmpty
def d0s : List PyData → Bool
  | [] => true
  | x :: xs => d0 x && d0s xs
end
section
open SeqAt
theorem all_true (n : Nat) : (List.range n).all (fun _ => true) = true := by simp
mutual
theorem eq_same : ∀ (d : PyData) (A : Around) (s : Shared) (u v : Value) (as bs : List Addr), d0 d = true → Reads s.heap u d as → Reads s.heap v d bs → sysModules ∉ as → sysModules ∉ bs → A.units + d.depth < cLine → EqAt A s u v true
  | .none, A, s, u, v, as, bs, h0, r1, r2, n1, n2, hu => by cases r1; cases r2; exact EqAt.same _
  | .bool b, A, s, u, v, as, bs, h0, r1, r2, n1, n2, hu => by cases r1; cases r2; exact EqAt.same _
  | .int i, A, s, u, v, as, bs, h0, r1, r2, n1, n2, hu => by
    cases r1 with
    | int i t => cases r2 with
      | int _ t2 =>
        have := EqAt.int_int (A := A) (s := s) i t i t2
        rw [beq_self_eq_true] at this
        exact this
  | .str z, A, s, u, v, as, bs, h0, r1, r2, n1, n2, hu => by
    cases r1 with
    | str z t => cases r2 with
      | str _ t2 =>
        have := EqAt.str_str (A := A) (s := s) z t z t2
        rw [beq_self_eq_true] at this
        exact this
  | .list xs, A, s, u, v, as, bs, h0, r1, r2, n1, n2, hu => by
    cases r1 with
    | @list l o vs n _ as1 k1 k2 k3 k4 => cases r2 with
      | @list l' o' vs' n' _ as2 j1 j2 j3 j4 =>
        by_cases e : l = l'
        · subst e; exact EqAt.same _
        · simp only [PyData.depth] at hu
          have he := eqs_same xs A.in1 s vs.toList vs'.toList as1 as2 (by simpa only [d0] using h0) k4 j4 (fun m => n1 (List.mem_cons_of_mem _ m)) (fun m => n2 (List.mem_cons_of_mem _ m)) (by show A.units + 1 + _ < _; omega)
          have m1 : vs.size = xs.length := by simpa using ReadsAll.length _ _ _ k4
          have m2 : vs'.size = xs.length := by simpa using ReadsAll.length _ _ _ j4
          have z := RcAt.lists (A := A) (s := s) (e := fun _ => true) ⟨_, k1, k2, _, k3⟩ ⟨_, j1, j2, _, j3⟩ (m1.trans m2.symm) (by omega) (fun j h1 h2 => he j h1 h2)
          rw [all_true] at z
          exact EqAt.of_refs e z
  | .tuple xs, A, s, u, v, as, bs, h0, r1, r2, n1, n2, hu => by
    cases r1 with
    | @tuple l o vs n _ as1 k1 k2 k3 k4 => cases r2 with
      | @tuple l' o' vs' n' _ as2 j1 j2 j3 j4 =>
        by_cases e : l = l'
        · subst e; exact EqAt.same _
        · simp only [PyData.depth] at hu
          have he := eqs_same xs A.in1 s vs.toList vs'.toList _ _ (by simpa only [d0] using h0) k4 j4 n1 n2 (by show A.units + 1 + _ < _; omega)
          have m1 : vs.size = xs.length := by simpa using ReadsAll.length _ _ _ k4
          have m2 : vs'.size = xs.length := by simpa using ReadsAll.length _ _ _ j4
          have z := RcAt.tuples (A := A) (s := s) (e := fun _ => true) ⟨_, k1, k2, _, k3⟩ ⟨_, j1, j2, _, j3⟩ (by omega) (fun j h1 h2 => he j h1 h2)
          rw [all_true, m1, m2, beq_self_eq_true] at z
          exact EqAt.of_refs e z
  | .dict kvs, A, s, u, v, as, bs, h0, r1, r2, n1, n2, hu => by
    cases r1 with
    | @dict l o es n _ as1 as2 k1 k2 k3 k4 k5 => cases r2 with
      | @dict l' o' es' n' _ as3 as4 j1 j2 j3 j4 j5 =>
        by_cases e : l = l'
        · subst e; exact EqAt.same _
        · have q : kvs = [] := by simpa [d0] using h0
          subst q
          have e1 : es = #[] := by
            have := ReadsAll.length _ _ _ k4
            simpa using this
          have e2 : es' = #[] := by
            have := ReadsAll.length _ _ _ j4
            simpa using this
          subst e1 e2
          refine EqAt.of_refs e (RcAt.dicts0 ?_ ?_ (by omega) ⟨_, _, k1, k2, k3⟩ ⟨_, _, j1, j2, j3⟩)
          · simp only [beq_eq_false_iff_ne]
            intro z
            exact n1 (by rw [← z]; simp)
          · simp only [beq_eq_false_iff_ne]
            intro z
            exact n2 (by rw [← z]; simp)
theorem eqs_same : ∀ (xs : List PyData) (A : Around) (s : Shared) (us vs : List Value) (as bs : List Addr), d0s xs = true → ReadsAll s.heap us xs as → ReadsAll s.heap vs xs bs → sysModules ∉ as → sysModules ∉ bs → A.units + PyData.depthAll xs < cLine → ∀ j (h1 : j < us.length) (h2 : j < vs.length), EqAt A s us[j] vs[j] true
  | [], A, s, us, vs, as, bs, h0, r1, r2, n1, n2, hu => by cases r1; cases r2; intro j h1; exact absurd h1 (by simp)
  | x :: xs, A, s, us, vs, as, bs, h0, r1, r2, n1, n2, hu => by
    cases r1 with
    | @cons u us _ _ as1 bs1 k1 k2 => cases r2 with
      | @cons v vs _ _ as2 bs2 j1 j2 =>
        have h0' : d0 x = true ∧ d0s xs = true := by simpa [d0s] using h0
        simp only [PyData.depthAll] at hu
        intro j h1 h2
        cases j with
        | zero => exact eq_same x A s u v as1 as2 h0'.1 k1 j1 (fun m => n1 (List.mem_append_left _ m)) (fun m => n2 (List.mem_append_left _ m)) (by omega)
        | succ j => simpa using eqs_same xs A s us vs bs1 bs2 h0'.2 k2 j2 (fun m => n1 (List.mem_append_right _ m)) (fun m => n2 (List.mem_append_right _ m)) (by omega) j (by simpa using h1) (by simpa using h2)
end
theorem rcne_list {xs : List PyData} {A : Around} {s : Shared} {u v : Value} {as bs : List Addr} (h0 : d0 (.list xs) = true) (r1 : Reads s.heap u (.list xs) as) (r2 : Reads s.heap v (.list xs) bs) (n1 : sysModules ∉ as) (n2 : sysModules ∉ bs) (hu : A.units + (PyData.list xs).depth < cLine) : RcNeAt A s u v false ∧ RcAt A s u v true := by
  cases r1 with
  | @list l o vs n _ as1 k1 k2 k3 k4 => cases r2 with
    | @list l' o' vs' n' _ as2 j1 j2 j3 j4 =>
      simp only [PyData.depth] at hu
      have he := eqs_same xs A.in1 s vs.toList vs'.toList as1 as2 (by simpa only [d0] using h0) k4 j4 (fun m => n1 (List.mem_cons_of_mem _ m)) (fun m => n2 (List.mem_cons_of_mem _ m)) (by show A.units + 1 + _ < _; omega)
      have m1 : vs.size = xs.length := by simpa using ReadsAll.length _ _ _ k4
      have m2 : vs'.size = xs.length := by simpa using ReadsAll.length _ _ _ j4
      have z := RcAt.lists (A := A) (s := s) (e := fun _ => true) ⟨_, k1, k2, _, k3⟩ ⟨_, j1, j2, _, j3⟩ (m1.trans m2.symm) (by omega) (fun j h1 h2 => he j h1 h2)
      have y := RcNeAt.lists (A := A) (s := s) (e := fun _ => true) ⟨_, k1, k2, _, k3⟩ ⟨_, j1, j2, _, j3⟩ (m1.trans m2.symm) (by omega) (fun j h1 h2 => he j h1 h2)
      rw [all_true] at z y
      exact ⟨y, z⟩
end
end
end PySem
namespace DL
open PySem PySem.Spec PyProof.Rows L2
open Evl (Ex)
/-- lists of the same data -/
def rSame (r : Bool) (K : PySem.W.Frag) : R2 := fun x y H Q => ∃ xs d, Rep K H (.lst xs) x ∧ Rep K H (.lst xs) y ∧ pyA (.lst xs) = some d ∧ d0 d = true ∧ d.depth ≤ 50 ∧ Q (.bl r) H
theorem op_sameE {X : Cx} (g : GOk X.base X.A) (hu : X.A.units + 64 < cLine) : OpR X (compareOp .Eq) (rSame true X.K) := by
  intro pins s σ H x y v u Q I rx ry h
  obtain ⟨xs, d, h1, h2, hp, h0, hd, q⟩ := h
  obtain ⟨as, r1, n1⟩ := rep_reads I g.2 _ _ _ _ hp h1 rx
  obtain ⟨bs, r2, n2⟩ := rep_reads I g.2 _ _ _ _ hp h2 ry
  have e : ∃ ds, d = .list ds := by
    unfold pyA at hp
    cases e2 : pyAs xs with
    | none => rw [e2] at hp; cases hp
    | some ds => rw [e2] at hp; cases hp; exact ⟨ds, rfl⟩
  obtain ⟨ds, rfl⟩ := e
  exact (rcne_list h0 r1 r2 n1 n2 (by omega)).2 _ _ _ _ ⟨.bl _, H, I, rfl, q⟩
theorem op_sameN {X : Cx} (g : GOk X.base X.A) (hu : X.A.units + 64 < cLine) : OpR X (compareOp .NotEq) (rSame false X.K) := by
  intro pins s σ H x y v u Q I rx ry h
  obtain ⟨xs, d, h1, h2, hp, h0, hd, q⟩ := h
  obtain ⟨as, r1, n1⟩ := rep_reads I g.2 _ _ _ _ hp h1 rx
  obtain ⟨bs, r2, n2⟩ := rep_reads I g.2 _ _ _ _ hp h2 ry
  have e : ∃ ds, d = .list ds := by
    unfold pyA at hp
    cases e2 : pyAs xs with
    | none => rw [e2] at hp; cases hp
    | some ds => rw [e2] at hp; cases hp; exact ⟨ds, rfl⟩
  obtain ⟨ds, rfl⟩ := e
  exact (rcne_list h0 r1 r2 n1 n2 (by omega)).1 _ _ _ _ ⟨.bl _, H, I, rfl, q⟩
def rEqB (K : PySem.W.Frag) : R2 := fun x y H Q => rEqA K x y H Q ∨ rSame true K x y H Q
def rNeB (K : PySem.W.Frag) : R2 := fun x y H Q => rNeA K x y H Q ∨ rSame false K x y H Q
theorem op_eqB {X : Cx} (g : GOk X.base X.A) (hu : X.A.units + 64 < cLine) : OpR X (compareOp .Eq) (rEqB X.K) := (op_eqA hu).or (op_sameE g hu)
theorem op_neB {X : Cx} (g : GOk X.base X.A) (hu : X.A.units + 64 < cLine) : OpR X (compareOp .NotEq) (rNeB X.K) := (op_neA hu).or (op_sameN g hu)
/-- the same data, no dict in it but empty ones -/
def sameD (x y : D) : Prop := ∃ xs d, x = .lst xs ∧ y = .lst xs ∧ pyA (.lst xs) = some d ∧ d0 d = true ∧ d.depth ≤ 50
def dEqB (f : Bool → Bool) : Dop := fun x y k => dEqF f x y k ∨ (sameD x y ∧ k (.d (.bl (f true))))
section
variable {c : Cd}
theorem opd_same (r : Bool) {f : Bool → Bool} (hf : f true = r) : OpD c (rSame r c.K) (fun x y k => sameD x y ∧ k (.d (.bl (f true)))) := by
  intro B G H σ δ r1 r2 v1 v2 x y Ψ Q F h1 h2 e1 e2 hf' k
  obtain ⟨⟨xs, d, rfl, rfl, hp, h0, hd⟩, q⟩ := hf'
  rw [hf] at q
  exact ⟨xs, d, view_repH F h1 e1, view_repH F h2 e2, hp, h0, hd, k _ _ G H q (Ex.refl G) (Ex.refl H) F (rep_bl (K := c.K) (G := G))⟩
theorem opd_eqB : OpD c (rEqB c.K) (dEqB id) := by
  intro B G H σ δ r1 r2 v1 v2 x y Ψ Q F h1 h2 e1 e2 hf k
  rcases hf with hf | hf
  · exact .inl (opd_eq B G H σ δ r1 r2 v1 v2 x y Ψ Q F h1 h2 e1 e2 hf k)
  · exact .inr (opd_same true (f := id) rfl B G H σ δ r1 r2 v1 v2 x y Ψ Q F h1 h2 e1 e2 hf k)
theorem opd_neB : OpD c (rNeB c.K) (dEqB not) := by
  intro B G H σ δ r1 r2 v1 v2 x y Ψ Q F h1 h2 e1 e2 hf k
  rcases hf with hf | hf
  · exact .inl (opd_ne B G H σ δ r1 r2 v1 v2 x y Ψ Q F h1 h2 e1 e2 hf k)
  · exact .inr (opd_same false (f := not) rfl B G H σ δ r1 r2 v1 v2 x y Ψ Q F h1 h2 e1 e2 hf k)
end
theorem dEqB_F {f : Bool → Bool} {x y : D} {k : R → Prop} (h : dEqF f x y k) : dEqB f x y k := .inl h
theorem dEqB_same {f : Bool → Bool} {x y : D} {k : R → Prop} (h : sameD x y) (q : k (.d (.bl (f true)))) : dEqB f x y k := .inr ⟨h, q⟩
theorem dEqB_sI {x y : D} {b : Bool} {k : R → Prop} (e : sEq x y = some b) (h : k (.d (.bl b))) : dEqB id x y k := .inl (dEq_sI e h)
theorem dEqB_sN {x y : D} {b : Bool} {k : R → Prop} (e : sEq x y = some b) (h : k (.d (.bl (!b)))) : dEqB not x y k := .inl (dEq_sN e h)
end DL

/-! DL18: dicts looked up, asked, stored to, made of pairs; lists: pop, insert, index; texts split. -/
namespace DL
open PySem PySem.Spec PyProof.Rows L2
open Evl (Ex)
/-! ### k in d -/
def rInK : R2 := fun y x H Q => ∃ a o, x = .ref a ∧ DGet H a y o ∧ Q (.bl o.isSome) H
def rNotInK : R2 := fun y x H Q => ∃ a o, x = .ref a ∧ DGet H a y o ∧ Q (.bl (!o.isSome)) H
def rInB (K : PySem.W.Frag) : R2 := fun x y H Q => rInA K x y H Q ∨ rInK x y H Q
def rNotInB (K : PySem.W.Frag) : R2 := fun x y H Q => rNotInA K x y H Q ∨ rNotInK x y H Q
theorem op_inK {X : Cx} (hu : X.A.units + 64 < cLine) : OpR X (compareOp .In) rInK := by
  intro pins s σ H y x u v Q I ry rx h
  obtain ⟨a, o, e, g, q⟩ := h
  subst e
  obtain rfl : v = Value.ref a := rx
  exact d_in (by omega) I g ry fun s3 I3 => ⟨.bl o.isSome, H, I3, rfl, q⟩
theorem op_notInK {X : Cx} (hu : X.A.units + 64 < cLine) : OpR X (compareOp .NotIn) rNotInK := by
  intro pins s σ H y x u v Q I ry rx h
  obtain ⟨a, o, e, g, q⟩ := h
  subst e
  obtain rfl : v = Value.ref a := rx
  exact d_notIn (by omega) I g ry fun s3 I3 => ⟨.bl (!o.isSome), H, I3, rfl, q⟩
theorem op_inB {X : Cx} (hu : X.A.units + 64 < cLine) : OpR X (compareOp .In) (rInB X.K) := op_inA.or (op_inK hu)
theorem op_notInB {X : Cx} (hu : X.A.units + 64 < cLine) : OpR X (compareOp .NotIn) (rNotInB X.K) := op_notInA.or (op_notInK hu)
section
variable {c : Cd}
theorem view_get {B G H : Hp} {σ : St} {δ : List Sl} {r1 r2 : R} {v1 v2 : V} {x : D} {kds : List (Key × D)} {key : Key} (F : Frame c.K B G H σ δ) (h1 : RW c.K G r1 v1) (h2 : RW c.K G r2 v2) (e1 : view δ r1 = some x) (e2 : view δ r2 = some (.dct kds)) (hk : dKey x = some key) :
    ∃ a, v2 = .ref a ∧ ((getD kds key = none ∧ DGet H a v1 none) ∨ ∃ y v, getD kds key = some y ∧ DGet H a v1 (some v) ∧ Rep c.K G y v) := by
  obtain ⟨a, vs, e, ha, hr⟩ := view_dct F h2 e2
  have ek := dKey_rep hk (view_repH F h1 e1)
  refine ⟨a, e, ?_⟩
  rcases repK_val (k := key) hr with ⟨q1, q2⟩ | ⟨y, v, q1, q2, q3⟩
  · exact .inl ⟨q1, .inl ⟨vs, key, ha, ek, q2.symm⟩⟩
  · exact .inr ⟨y, v, q1, .inl ⟨vs, key, ha, ek, q2.symm⟩, q3⟩
def dInK (f : Bool → Bool) : Dop := fun x y k => ∃ key kds, dKey x = some key ∧ y = .dct kds ∧ k (.d (.bl (f (getD kds key).isSome)))
def dInB (f : Bool → Bool) : Dop := fun x y k => dIn f x y k ∨ dInK f x y k
theorem opd_inK : OpD c rInK (dInK id) := by
  intro B G H σ δ r1 r2 v1 v2 x y Ψ Q F h1 h2 e1 e2 hf k
  obtain ⟨key, kds, hk, ey, q⟩ := hf
  subst ey
  obtain ⟨a, e, g⟩ := view_get F h1 h2 e1 e2 hk
  rcases g with ⟨g1, g2⟩ | ⟨z, v, g1, g2, _⟩
  · rw [g1] at q
    exact ⟨a, none, e, g2, k _ _ G H q (Ex.refl G) (Ex.refl H) F (rep_bl (K := c.K) (G := G))⟩
  · rw [g1] at q
    exact ⟨a, some v, e, g2, k _ _ G H q (Ex.refl G) (Ex.refl H) F (rep_bl (K := c.K) (G := G))⟩
theorem opd_notInK : OpD c rNotInK (dInK not) := by
  intro B G H σ δ r1 r2 v1 v2 x y Ψ Q F h1 h2 e1 e2 hf k
  obtain ⟨key, kds, hk, ey, q⟩ := hf
  subst ey
  obtain ⟨a, e, g⟩ := view_get F h1 h2 e1 e2 hk
  rcases g with ⟨g1, g2⟩ | ⟨z, v, g1, g2, _⟩
  · rw [g1] at q
    exact ⟨a, none, e, g2, k _ _ G H q (Ex.refl G) (Ex.refl H) F (rep_bl (K := c.K) (G := G))⟩
  · rw [g1] at q
    exact ⟨a, some v, e, g2, k _ _ G H q (Ex.refl G) (Ex.refl H) F (rep_bl (K := c.K) (G := G))⟩
theorem opd_inBI : OpD c (rInB c.K) (dInB id) := fun B G H σ δ r1 r2 v1 v2 x y Ψ Q F h1 h2 e1 e2 hf k => hf.elim
  (fun hf => .inl (opd_inI B G H σ δ r1 r2 v1 v2 x y Ψ Q F h1 h2 e1 e2 hf k)) (fun hf => .inr (opd_inK B G H σ δ r1 r2 v1 v2 x y Ψ Q F h1 h2 e1 e2 hf k))
theorem opd_inBN : OpD c (rNotInB c.K) (dInB not) := fun B G H σ δ r1 r2 v1 v2 x y Ψ Q F h1 h2 e1 e2 hf k => hf.elim
  (fun hf => .inl (opd_inN B G H σ δ r1 r2 v1 v2 x y Ψ Q F h1 h2 e1 e2 hf k)) (fun hf => .inr (opd_notInK B G H σ δ r1 r2 v1 v2 x y Ψ Q F h1 h2 e1 e2 hf k))
end
section
variable {x y : D} {k : R → Prop} {kds : List (Key × D)} {key : Key}
theorem dInB_A {f : Bool → Bool} (h : dIn f x y k) : dInB f x y k := .inl h
theorem dInB_kI (hk : dKey x = some key) (h : k (.d (.bl (getD kds key).isSome))) : dInB id x (.dct kds) k := .inr ⟨key, kds, hk, rfl, h⟩
theorem dInB_kN (hk : dKey x = some key) (h : k (.d (.bl (!(getD kds key).isSome)))) : dInB not x (.dct kds) k := .inr ⟨key, kds, hk, rfl, h⟩
theorem dInB_sI {ch : Nat} {z : Str} (h : k (.d (.bl (decide (ch ∈ z.cps.toList))))) : dInB id (.str ⟨#[ch]⟩) (.str z) k := .inl (dIn_sI h)
theorem dInB_sN {ch : Nat} {z : Str} (h : k (.d (.bl (!decide (ch ∈ z.cps.toList))))) : dInB not (.str ⟨#[ch]⟩) (.str z) k := .inl (dIn_sN h)
theorem dInB_lI {xs : List D} (h1 : flatD x = true) (h2 : xs.all flatD = true) (h : k (.d (.bl (inD x xs)))) : dInB id x (.lst xs) k := .inl (dIn_l h1 h2 h)
theorem dInB_lN {xs : List D} (h1 : flatD x = true) (h2 : xs.all flatD = true) (h : k (.d (.bl (!inD x xs)))) : dInB not x (.lst xs) k := .inl (dIn_l h1 h2 h)
theorem dInB_tI {xs : List D} (h1 : flatD x = true) (h2 : xs.all flatD = true) (h : k (.d (.bl (inD x xs)))) : dInB id x (.tup xs) k := .inl (dIn_t h1 h2 h)
theorem dInB_tN {xs : List D} (h1 : flatD x = true) (h2 : xs.all flatD = true) (h : k (.d (.bl (!inD x xs)))) : dInB not x (.tup xs) k := .inl (dIn_t h1 h2 h)
end
/-! ### d[k] -/
def rIxK : R2 := fun x y H Q => ∃ a v, x = .ref a ∧ DGet H a y (some v) ∧ Q v H
def rIxB (K : PySem.W.Frag) : R2 := fun x y H Q => rIx K x y H Q ∨ rIxK x y H Q
theorem ix_dct {X : Cx} (hu : X.A.units + 64 < cLine) : IxR X rIxK := by
  intro value slice pins s σ H x y o i Q I rx ry h hs
  obtain ⟨a, v, e, g, q⟩ := h
  subst e
  obtain rfl : o = Value.ref a := rx
  have hT := dict_typeIs I g
  have h2 : wpAny (model X.prog X.w) X.A (getItem (.ref a) i) (EP X pins σ Q) X.xe s := d_getItem (by omega) I g ry fun w' s3 I3 rw' => ⟨v, H, I3, rw', q⟩
  unfold subscriptTail
  refine wpAny_bind ?_
  rw [getitemInPython_of_ne hT.not_modules]
  refine wpAny_bind (wpAny_specialOf hT PySem.F.slot_dict_getitem.lookup ?_)
  have fin : wpAny (model X.prog X.w) X.A (subscripted slice false (.ref a) i) (fun r z3 => wpAny (model X.prog X.w) X.A (letTemporaryGo value (.ref a) r >>= fun _ => pure r) (EP X pins σ Q) X.xe z3) X.xe s := by
    rw [hs]
    exact wpAny_operating (wpAny_mono h2 (fun r z3 h3 => wpAny_bind (wpAny_letTemporaryGo (wpAny_pure h3))) fun _ _ x => x)
  first
    | exact wpAny_pure (wpAny_bind fin)
    | exact wpAny_bind (wpAny_pure (wpAny_bind fin))
    | exact wpAny_bind fin
theorem ix_any {X : Cx} (hu : X.A.units + 64 < cLine) : IxR X (rIxB X.K) := ix_seq.or (ix_dct hu)
def dIxB : Dop := fun x y k => dIx x y k ∨ ∃ key kds z, dKey y = some key ∧ x = .dct kds ∧ getD kds key = some z ∧ k (.d z)
section
variable {c : Cd}
theorem opd_ixB : OpD c (rIxB c.K) dIxB := by
  intro B G H σ δ r1 r2 v1 v2 x y Ψ Q F h1 h2 e1 e2 hf k
  rcases hf with hf | ⟨key, kds, z, hk, ex, hz, q⟩
  · exact .inl (opd_ix B G H σ δ r1 r2 v1 v2 x y Ψ Q F h1 h2 e1 e2 hf k)
  · subst ex
    obtain ⟨a, e, g⟩ := view_get F h2 h1 e2 e1 hk
    rcases g with ⟨g1, _⟩ | ⟨w, v, g1, g2, g3⟩
    · rw [g1] at hz; cases hz
    · rw [g1] at hz
      cases hz
      exact .inr ⟨a, v, e, g2, k _ _ G H q (Ex.refl G) (Ex.refl H) F g3⟩
end
section
variable {x y z : D} {k : R → Prop} {kds : List (Key × D)} {key : Key} {xs : List D} {i : Int} {t : Str}
theorem dIxB_l (h1 : atI xs i = some x) (h : k (.d x)) : dIxB (.lst xs) (.int i) k := .inl (dIx_l h1 h)
theorem dIxB_r (h1 : atI xs i = some x) (h : k (.d x)) : dIxB (.ro xs) (.int i) k := .inl (dIx_r h1 h)
theorem dIxB_t (h1 : atI xs i = some x) (h : k (.d x)) : dIxB (.tup xs) (.int i) k := .inl (dIx_t h1 h)
theorem dIxB_s {ch : Nat} (h0 : t.length ≤ 16000000) (h1 : atI t.cps.toList i = some ch) (h : k (.d (.str ⟨#[ch]⟩))) : dIxB (.str t) (.int i) k := .inl (dIx_s h0 h1 h)
theorem dIxB_k (hk : dKey y = some key) (h1 : getD kds key = some z) (h : k (.d z)) : dIxB (.dct kds) y k := .inr ⟨key, kds, z, hk, rfl, h1, h⟩
end
/-! ### d[k] = v -/
def rSetB : TSet := fun o i v H Q => rSetL o i v H Q ∨ rSetD o i v H Q
theorem set_any {X : Cx} (hu : X.A.units + 64 < cLine) : PSet X rSetB := fun pins s σ H o i v ov iv u Q I ro ri rv h => h.elim (set_list pins s σ H o i v ov iv u Q I ro ri rv) (L2.set_dict (by omega) pins s σ H o i v ov iv u Q I ro ri rv)
theorem own_dct {K : PySem.W.Frag} {B G H : Hp} {σ : St} {δ : List Sl} {i : Nat} {a : Addr} {ds : List (Key × D)} (F : Frame K B G H σ δ) (e : δ[i]? = some (.own a (.dct ds))) : ∃ xs, H a = some (.dK xs) ∧ RepK K G ds xs := by
  obtain ⟨ov, _, _, h⟩ := F.get e
  exact h
theorem repK_len' {K : PySem.W.Frag} {G : Hp} : ∀ {ds : List (Key × D)} {vs : List (Key × V)}, RepK K G ds vs → vs.length = ds.length
  | [], vs, h => by unfold RepK at h; subst h; rfl
  | (k, d) :: ds, vs, h => by
    unfold RepK at h
    obtain ⟨v, vr, e, _, h2⟩ := h
    subst e
    simp [repK_len' h2]
section
variable {c : Cd} {δ : List Sl} {ta tb : TE}
theorem wg_setB {r : R} {Φ : List Sl → Prop} (h : ∃ x, frz r = .d x ∧ WE c false ta δ fun r1 δ1 => ∃ i a, r1 = .bor i a ∧ WE c false tb δ1 fun r2 δ2 =>
    (∃ n ds j, r2 = .d (.int n) ∧ δ2[i]? = some (.own a (.lst ds)) ∧ ixN ds.length n = some j ∧ ∀ δ3, δ3 = δ2.set i (.own a (.lst (ds.set j x))) → Φ δ3) ∨
    (∃ y key kds, r2 = .d y ∧ dKey y = some key ∧ δ2[i]? = some (.own a (.dct kds)) ∧ kds.length < 100000 ∧ ∀ δ3, δ3 = δ2.set i (.own a (.dct (putD kds key x))) → Φ δ3)) :
    WG c (gSub ta tb rSetB) r δ Φ := by
  intro B G H σ v Q F x k rv
  obtain ⟨y, hy, h⟩ := h
  obtain ⟨G0, e0, F0, rw0⟩ := k.weak F
  rw [hy] at rw0
  refine h B G0 H σ _ F0 (c.mono _ _ _ e0 x) fun r1 δ1 v1 G1 H1 w1 e1 F1 rv1 p1 => ?_
  obtain ⟨i, a, er, w1⟩ := w1
  subst er
  obtain ⟨ev, _⟩ := rv1
  subst ev
  refine w1 B G1 H1 σ _ F1 (c.mono _ _ _ (e0.trans e1) x) fun r2 δ2 v2 G2 H2 w2 e2 F2 rv2 p2 => ?_
  have hv : Rep c.K G2 y v := Rep.mono (e1.trans e2) (show Rep c.K G0 y v from rw0)
  rcases w2 with ⟨n, ds, j, er2, hd, hj, w2⟩ | ⟨w, key, kds, er2, hk, hd, hl, w2⟩
  · subst er2
    have q2 : v2 = .int n := by have z : Rep c.K G2 (.int n) v2 := rv2; unfold Rep at z; exact z
    subst q2
    obtain ⟨xs, hx, hr⟩ := own_lst F2 hd
    refine .inl ⟨a, xs, n, j, rfl, rfl, hx, by rw [reps_length hr]; exact hj, ?_⟩
    exact rv _ _ G2 _ (w2 _ rfl) (e0.trans (e1.trans e2)) (frame_mut F2 hd ⟨_, upd_same, reps_set j hr hv⟩)
  · subst er2
    have q2 : v2 = kV key := dKey_rep hk (show Rep c.K G2 w v2 from rv2)
    subst q2
    obtain ⟨xs, hx, hr⟩ := own_dct F2 hd
    have hl2 : xs.length < sizeLine := by rw [repK_len' hr, sizeLine_eq]; omega
    refine .inr ⟨a, _, rfl, .inl ⟨xs, key, hx, rfl, hl2, rfl⟩, ?_⟩
    exact rv _ _ G2 _ (w2 _ rfl) (e0.trans (e1.trans e2)) (frame_mut F2 hd ⟨_, upd_same, repK_put hr hv⟩)
end
end DL

/-! DL19: lists: pop, insert, index, clear; texts split; dict(..), list(a dict); d.get; isinstance of several. -/
namespace DL
open PySem PySem.Spec PyProof.Rows L2
open Evl (Ex)
section
variable {X : Cx}
theorem mt_popAtA : MtR X "list.pop" rPopAt := L2.mt_popAt
theorem mt_popA : MtR X "list.pop" rPop := L2.mt_pop
theorem mt_clearA : MtR X "list.clear" rClear := L2.mt_clear
def rInsertA : V → List V → Hp → VK → Prop := fun x vs H Q => ∃ (l : Addr) (xs : List V) (i : Int) (y : V), x = .ref l ∧ vs = [.int i, y] ∧ H l = some (.lst xs) ∧ xs.length < sizeLine ∧ 0 ≤ i ∧ i < 2 ^ 63 ∧ Q .non (upd H l (.lst (xs.take i.toNat ++ [y] ++ xs.drop i.toNat)))
theorem mt_insertA : MtR X "list.insert" rInsertA := L2.mt_insert
def rSplitA : V → List V → Hp → VK → Prop := fun x xs H Q => ∃ a b, x = .str a ∧ xs = [.str b] ∧ (b.length == 0) = false ∧ a.length + 2 ≤ sizeLine ∧ rNewStrs (Txt.split a b) H Q
theorem mt_splitA : MtR X "str.split" rSplitA := L2.mt_split
def rIndexA (K : PySem.W.Frag) : V → List V → Hp → VK → Prop := rIndex K
theorem mt_indexA : MtR X "list.index" (rIndexA X.K) := L2.mt_index
end
theorem reps_erase {K : PySem.W.Frag} {G : Hp} {ds : List D} {xs : List V} (i : Nat) (h : Reps K G ds xs) : Reps K G (ds.eraseIdx i) (xs.eraseIdx i) := by
  rw [List.eraseIdx_eq_take_drop_succ, List.eraseIdx_eq_take_drop_succ]
  exact reps_append (reps_take i h) (reps_drop (i + 1) h)
theorem reps_two' {K : PySem.W.Frag} {G : Hp} {x y : D} {vs : List V} (h : Reps K G [x, y] vs) : ∃ v w, vs = [v, w] ∧ Rep K G x v ∧ Rep K G y w := by
  unfold Reps at h
  obtain ⟨v, vr, e, h1, h2⟩ := h
  obtain ⟨w, e2, h3⟩ := reps_one' h2
  subst e2
  exact ⟨v, w, e, h1, h3⟩
theorem sq_nat {i n : Nat} (h : i < n) : seqIndex? (i : Int) n = some i := by
  unfold seqIndex?
  simp
  omega
theorem mu_popAt : MuL rPopAt fun ds es k => ∃ (i : Nat) (x : D), es = [.int i] ∧ ds.length ≤ 100000 ∧ ds[i]? = some x ∧ k (ds.eraseIdx i) x := fun K G H a xs ds es vs Ψ Q hx eG hr he hf k => by
  obtain ⟨i, x, e, hl, hi, q⟩ := hf
  subst e
  obtain ⟨v, e2, h2⟩ := reps_one' he
  subst e2
  unfold Rep at h2
  subst h2
  obtain ⟨w, h3, h4⟩ := reps_get hr hi
  have hlt : i < xs.length := by
    rcases Nat.lt_or_ge i xs.length with q | q
    · exact q
    · rw [List.getElem?_eq_none q] at h3; cases h3
  have hle : xs.length = ds.length := reps_length hr
  exact ⟨a, xs, i, i, w, rfl, rfl, hx, by omega, by omega, sq_nat hlt, h3, k _ _ _ _ q (reps_erase i hr) h4⟩
theorem mu_insert : MuL rInsertA fun ds es k => ∃ (i : Nat) (x : D), es = [.int i, x] ∧ i ≤ 100000 ∧ ds.length < 100000 ∧ k (ds.take i ++ [x] ++ ds.drop i) .non := fun K G H a xs ds es vs Ψ Q hx eG hr he hf k => by
  obtain ⟨i, x, e, hi, hl, q⟩ := hf
  subst e
  obtain ⟨v, w, e2, h2, h3⟩ := reps_two' he
  subst e2
  unfold Rep at h2
  subst h2
  exact ⟨a, xs, i, w, rfl, rfl, hx, Evl.sz_lt (by rw [reps_length hr]; exact hl), by omega, by omega, k _ _ _ _ q (reps_append (reps_append (reps_take i hr) (reps_one h3)) (reps_drop i hr)) rep_non⟩
section
variable {c : Cd} {p : Bool} {δ : List Sl} {te : TE} {tr : TA} {Φ : R → List Sl → Prop}
theorem we_popAt (h : WE c false te δ fun r1 δ1 => ∃ i a, r1 = .bor i a ∧ (∃ ds, δ1[i]? = some (.own a (.lst ds))) ∧ WA c false tr δ1 fun rs δ2 => ∃ (ds : List D) (n : Nat) (x : D), rs = [.d (.int n)] ∧ δ2[i]? = some (.own a (.lst ds)) ∧ ds.length ≤ 100000 ∧ ds[n]? = some x ∧
    ∀ δ3, δ3 = δ2.set i (.own a (.lst (ds.eraseIdx n))) → Φ (.d x) δ3) : WE c false (tBM c.K "list" rPopAt te tr) δ Φ := by
  refine we_mu mu_popAt (we_mono h fun r1 δ1 ⟨i, a, e1, h0, h1⟩ => ⟨i, a, e1, h0, ?_⟩)
  intro B G H σ Q F x k
  refine h1 B G H σ Q F x fun rs δ2 vs G' H' ⟨ds, n, y, e2, e3, hl, hy, q⟩ => k rs δ2 vs G' H' ⟨ds, [.int n], by rw [e2]; rfl, e3, n, y, rfl, hl, hy, q _ rfl⟩
theorem we_insert (h : WE c false te δ fun r1 δ1 => ∃ i a, r1 = .bor i a ∧ (∃ ds, δ1[i]? = some (.own a (.lst ds))) ∧ WA c false tr δ1 fun rs δ2 => ∃ (ds : List D) (n : Nat) (x : D), rs = [.d (.int n), .d x] ∧ δ2[i]? = some (.own a (.lst ds)) ∧ n ≤ 100000 ∧ ds.length < 100000 ∧
    ∀ δ3, δ3 = δ2.set i (.own a (.lst (ds.take n ++ [x] ++ ds.drop n))) → Φ (.d .non) δ3) : WE c false (tBM c.K "list" rInsertA te tr) δ Φ := by
  refine we_mu mu_insert (we_mono h fun r1 δ1 ⟨i, a, e1, h0, h1⟩ => ⟨i, a, e1, h0, ?_⟩)
  intro B G H σ Q F x k
  refine h1 B G H σ Q F x fun rs δ2 vs G' H' ⟨ds, n, y, e2, e3, hn, hl, q⟩ => k rs δ2 vs G' H' ⟨ds, [.int n, y], by rw [e2]; rfl, e3, n, y, rfl, hn, hl, q _ rfl⟩
theorem we_pop0 (h : WE c false te δ fun r1 δ1 => ∃ i a ds, r1 = .bor i a ∧ δ1[i]? = some (.own a (.lst ds)) ∧ ∃ x, ds[ds.length - 1]? = some x ∧ ∀ δ3, δ3 = δ1.set i (.own a (.lst ds.dropLast)) → Φ (.d x) δ3) : WE c false (tBM0 c.K "list" rPop te) δ Φ :=
  we_mu0 mu_pop (we_mono h fun r1 δ1 ⟨i, a, ds, e1, e2, x, e3, q⟩ => ⟨i, a, ds, e1, e2, rfl, x, e3, q _ rfl⟩)
theorem we_clear0 (h : WE c false te δ fun r1 δ1 => ∃ i a ds, r1 = .bor i a ∧ δ1[i]? = some (.own a (.lst ds)) ∧ ∀ δ3, δ3 = δ1.set i (.own a (.lst [])) → Φ (.d .non) δ3) : WE c false (tBM0 c.K "list" rClear te) δ Φ :=
  we_mu0 mu_clear (we_mono h fun r1 δ1 ⟨i, a, ds, e1, e2, q⟩ => ⟨i, a, ds, e1, e2, rfl, q _ rfl⟩)
theorem view_one {rs : List R} {K : PySem.W.Frag} {G : Hp} {vs : List V} {x : D} (e : views δ rs = some [x]) (h : RVs K G rs vs) : ∃ r w, rs = [r] ∧ vs = [w] ∧ view δ r = some x ∧ RW K G r w := by
  cases rs with
  | nil => cases views_nil e
  | cons r rs =>
    obtain ⟨x', es, e3, e4, e5⟩ := views_cons e
    cases e3
    cases rs with
    | nil =>
      obtain ⟨w, wr, e6, h3, h4⟩ := h
      have e7 : wr = [] := h4
      subst e7
      exact ⟨r, w, rfl, e6, e4, h3⟩
    | cons r2 rs =>
      obtain ⟨x', es, e3, e4, e5⟩ := views_cons e5
      cases e3
end
section
variable {c : Cd}
/-- the first place of x -/
def atD (x : D) : List D → Option Nat
  | [] => none
  | y :: ys => if eqF y x = true then some 0 else (atD x ys).map (· + 1)
theorem atD_spec {x : D} : ∀ {ys : List D} {j : Nat}, atD x ys = some j → (∃ z, ys[j]? = some z ∧ eqF z x = true) ∧ ∀ m z, m < j → ys[m]? = some z → eqF z x = false
  | [], j, h => by cases h
  | y :: ys, j, h => by
    unfold atD at h
    by_cases q : eqF y x = true
    · rw [if_pos q] at h
      cases h
      exact ⟨⟨y, rfl, q⟩, fun m z hm => absurd hm (by omega)⟩
    · rw [if_neg q] at h
      cases e : atD x ys with
      | none => rw [e] at h; cases h
      | some i =>
        rw [e] at h
        cases h
        obtain ⟨⟨z, h1, h2⟩, h3⟩ := atD_spec e
        refine ⟨⟨z, by simpa using h1, h2⟩, fun m w hm hw => ?_⟩
        cases m with
        | zero =>
          have : y = w := by simpa using hw
          subst this
          simpa using q
        | succ m => exact h3 m w (Nat.lt_of_succ_lt_succ (show m + 1 < i + 1 from hm)) (by simpa using hw)
theorem med_index : MeD c (rIndexA c.K) fun x ds k => ∃ xs y j, x = .lst xs ∧ ds = [y] ∧ flatD y = true ∧ xs.all flatD = true ∧ atD y xs = some j ∧ k (.d (.int (j : Nat))) := by
  intro B G H σ δ r1 rs v vs x ds Ψ Q F h1 hr e1 e2 hf k
  obtain ⟨xs, y, j, ex, ed, f1, f2, hj, q⟩ := hf
  subst ex ed
  obtain ⟨a, ws, ev, ha, hw⟩ := view_lst F h1 e1
  subst ev
  obtain ⟨r, w, er, ew, e3, h3⟩ := view_one e2 hr
  subst er ew
  have hy := view_repH F h3 e3
  obtain ⟨⟨z, z1, z2⟩, z3⟩ := atD_spec hj
  have hwH := Reps.mono F.exG hw
  obtain ⟨zv, zv1, zv2⟩ := reps_get hwH z1
  have fz : flatD z = true := List.all_eq_true.mp f2 z (List.mem_of_getElem? z1)
  refine ⟨a, ws, w, j, zv, rfl, rfl, .inl ha, flat_rep f1 hy, flats_rep f2 hwH, zv1, by rw [eqF_V fz f1 zv2 hy]; exact z2, fun m z' hm hz' => ?_, k _ _ G H q (Ex.refl G) (Ex.refl H) F (rep_int (K := c.K) (G := G))⟩
  obtain ⟨u, u1, u2⟩ := reps_getV hwH hz'
  rw [eqF_V (List.all_eq_true.mp f2 u (List.mem_of_getElem? u1)) f1 u2 hy]
  exact z3 m u hm u1
theorem reps_strs {K : PySem.W.Frag} {G : Hp} : ∀ ys : List Str, Reps K G (ys.map D.str) (ys.map V.str)
  | [] => reps_nil
  | y :: ys => reps_cons rep_str (reps_strs ys)
theorem med_split : MeD c rSplitA fun x ds k => ∃ a b, x = .str a ∧ ds = [.str b] ∧ (b.length == 0) = false ∧ a.length ≤ 16000000 ∧ ∀ l, k (.own l (.lst ((Txt.split a b).map D.str))) := by
  intro B G H σ δ r1 rs v vs x ds Ψ Q F h1 hr e1 e2 hf k
  obtain ⟨a, b, ex, ed, hb, hl, q⟩ := hf
  subst ex ed
  have q1 := view_repH F h1 e1
  unfold Rep at q1
  subst q1
  obtain ⟨r, w, er, ew, e3, h3⟩ := view_one e2 hr
  subst er ew
  have q2 := view_repH F h3 e3
  unfold Rep at q2
  subst q2
  exact ⟨a, b, rfl, rfl, hb, by rw [sizeLine_eq]; omega, fun l hl' => k _ _ G _ (q l) (Ex.refl G) (Ex.new hl') (F.ex (Ex.new hl')) (rv_newL F hl' (reps_strs _))⟩
end
/-! ### dict(..), list(a dict), isinstance of several -/
/-- pairs of a key and data -/
def pairsD : List D → Option (List (Key × D))
  | [] => some []
  | .tup [k, x] :: r => match dKey k with
    | some key => (pairsD r).map ((key, x) :: ·)
    | none => none
  | _ :: _ => none
def rDictP (K : PySem.W.Frag) : List V → Hp → VK → Prop := fun xs H Q => ∃ (a : Addr) (ps : List Addr) (kvs : List (Key × V)), xs = [.ref a] ∧ SqL K H a (ps.map V.ref) ∧ Paired (fun p kv => SqT K H p [kV kv.1, kv.2]) ps kvs ∧ ∀ p, H p = none → Q (.ref p) (upd H p (.dK (mergeK [] kvs)))
def rDictD : List V → Hp → VK → Prop := fun xs H Q => ∃ (a : Addr) (kvs : List (Key × V)), xs = [.ref a] ∧ Rd H a (.dK kvs) ∧ ∀ p, H p = none → Q (.ref p) (upd H p (.dK kvs))
def rDictA (K : PySem.W.Frag) : List V → Hp → VK → Prop := fun xs H Q => rDictP K xs H Q ∨ rDictD xs H Q
theorem call_dictA {X : Cx} (hc : X.calm = true) : CallR X (.type "dict") (rDictA X.K) := (L2.call_dictP hc).or L2.call_dictD
def rListD : List V → Hp → VK → Prop := fun xs H Q => ∃ (a : Addr) (kvs : List (Key × V)), xs = [.ref a] ∧ Rd H a (.dK kvs) ∧ ∀ p, H p = none → Q (.ref p) (upd H p (.lst (kvs.map fun kv => kV kv.1)))
def rListB (K : PySem.W.Frag) : List V → Hp → VK → Prop := fun xs H Q => rListA K xs H Q ∨ rListD xs H Q
theorem call_listB {X : Cx} (hc : X.calm = true) : CallR X (.type "list") (rListB X.K) := call_listA.or (L2.call_listD hc)
theorem pairs_paired {K : PySem.W.Frag} {G H : Hp} (e : Ex G H) : ∀ {xs : List D} {vs : List V} {kds : List (Key × D)}, pairsD xs = some kds → Reps K G xs vs → ∃ (ps : List Addr) (kvs : List (Key × V)), vs = ps.map V.ref ∧ Paired (fun p kv => SqT K H p [kV kv.1, kv.2]) ps kvs ∧ RepK K G kds kvs
  | [], vs, kds, h, r => by
    unfold Reps at r
    cases h
    subst r
    exact ⟨[], [], rfl, .nil, by unfold RepK; rfl⟩
  | x :: xs, vs, kds, h, r => by
    unfold Reps at r
    obtain ⟨v, vr, e1, h1, h2⟩ := r
    subst e1
    cases x with
    | tup ys =>
      cases ys with
      | nil => cases h
      | cons k ys =>
        cases ys with
        | nil => cases h
        | cons y ys =>
          cases ys with
          | cons _ _ => cases h
          | nil =>
            unfold pairsD at h
            cases hk : dKey k with
            | none => rw [hk] at h; cases h
            | some key =>
              rw [hk] at h
              cases hr : pairsD xs with
              | none => rw [hr] at h; cases h
              | some rest =>
                rw [hr] at h
                cases h
                obtain ⟨ps, kvs, e2, e3, e4⟩ := pairs_paired e hr h2
                unfold Rep at h1
                obtain ⟨a, ws, ea, ha, hw⟩ := h1
                obtain ⟨w1, w2, ew, q1, q2⟩ := reps_two' hw
                subst ea ew e2
                have ek := dKey_rep hk q1
                subst ek
                exact ⟨a :: ps, (key, w2) :: kvs, rfl, .cons (SqT.of (e _ _ ha)) e3, by unfold RepK; exact ⟨w2, kvs, rfl, q2, e4⟩⟩
    | _ => cases h
section
variable {c : Cd}
theorem rv_newD {B G H : Hp} {σ : St} {δ : List Sl} {l : Addr} {ds : List (Key × D)} {vs : List (Key × V)} (F : Frame c.K B G H σ δ) (hl : H l = none) (h : RepK c.K G ds vs) : RV c.K B G (upd H l (.dK vs)) δ (.own l (.dct ds)) (.ref l) := by
  obtain ⟨h1, h2, h3⟩ := F.fresh hl
  exact ⟨rfl, ⟨vs, upd_same, h⟩, h1, h2, h3⟩
theorem cad_dict : CaD c (rDictA c.K) fun ds k => ∃ x, ds = [x] ∧ ((∃ xs kds, x = .lst xs ∧ pairsD xs = some kds ∧ ∀ a, k (.own a (.dct (mergeD [] kds)))) ∨ ∃ kds, x = .dct kds ∧ ∀ a, k (.own a (.dct kds))) := cad_one fun B G H σ δ r1 v x Ψ Q F h1 e1 hf k => by
  rcases hf with ⟨xs, kds, ex, hp, q⟩ | ⟨kds, ex, q⟩
  · subst ex
    obtain ⟨a, vs, ev, ha, hr⟩ := view_lst F h1 e1
    subst ev
    obtain ⟨ps, kvs, e2, e3, e4⟩ := pairs_paired F.exG hp hr
    subst e2
    exact .inl ⟨a, ps, kvs, rfl, .inl ha, e3, fun l hl => k _ _ G _ (q l) (Ex.refl G) (Ex.new hl) (F.ex (Ex.new hl)) (rv_newD F hl (repK_merge e4 (by unfold RepK; rfl)))⟩
  · subst ex
    obtain ⟨a, vs, ev, ha, hr⟩ := view_dct F h1 e1
    subst ev
    exact .inr ⟨a, vs, rfl, ha, fun l hl => k _ _ G _ (q l) (Ex.refl G) (Ex.new hl) (F.ex (Ex.new hl)) (rv_newD F hl hr)⟩
theorem keys_reps {K : PySem.W.Frag} {G : Hp} : ∀ {ds : List (Key × D)} {vs : List (Key × V)}, RepK K G ds vs → Reps K G (ds.map fun kv => keyD kv.1) (vs.map fun kv => kV kv.1)
  | [], vs, h => by unfold RepK at h; subst h; exact reps_nil
  | (k, d) :: ds, vs, h => by
    unfold RepK at h
    obtain ⟨v, vr, e, _, h2⟩ := h
    subst e
    refine reps_cons ?_ (keys_reps h2)
    cases k <;> (unfold keyD Rep; rfl)
theorem cad_listB : CaD c (rListB c.K) fun ds k => ∃ x, ds = [x] ∧ ((∃ xs, seqD x = some xs ∧ ∀ a, k (.own a (.lst xs))) ∨ ∃ kds, x = .dct kds ∧ ∀ a, k (.own a (.lst (kds.map fun kv => keyD kv.1)))) := by
  intro B G H σ δ rs vs ds Ψ Q F h e hf k
  obtain ⟨x, ed, hf⟩ := hf
  rcases hf with ⟨xs, h1, q⟩ | ⟨kds, ex, q⟩
  · exact .inl (cad_list B G H σ δ rs vs ds Ψ Q F h e ⟨x, ed, xs, h1, q⟩ k)
  · subst ed ex
    obtain ⟨r, w, er, ew, e3, h3⟩ := view_one e h
    subst er ew
    obtain ⟨a, ws, ev, ha, hr⟩ := view_dct F h3 e3
    subst ev
    exact .inr ⟨a, ws, rfl, ha, fun l hl => k _ _ G _ (q l) (Ex.refl G) (Ex.new hl) (F.ex (Ex.new hl)) (rv_newL F hl (keys_reps hr))⟩
/-- isinstance(x, (A, B, ..)) -/
def rIsiS (K : PySem.W.Frag) : List V → Hp → VK → Prop := fun xs H Q => ∃ (x : V) (tp : Addr) (cs : List V) (t : Value) (us : List Value) (b : Bool), xs = [x, .ref tp] ∧ SqT K H tp cs ∧ Paired L2.ClsV cs us ∧ TyX K H x t ∧ PySem.W.kitAny K t us = some b ∧ Q (.bl b) H
theorem call_isiS {X : Cx} : CallR X (.builtin "isinstance") (rIsiS X.K) := by
  intro pins s σ H xs us Q I r h
  obtain ⟨x, tp, cs, t, ws, b, rfl, hT, k, ty, e, q⟩ := h
  obtain ⟨u1, u2, rfl, r1, r2⟩ := vals2 r
  cases (show u2 = Value.ref tp from r2)
  obtain ⟨P, Z, p, hx⟩ := kit_of I r1 ty
  obtain ⟨its, rv, ⟨o, h1, h2, n, h3⟩, _⟩ := I.tuple hT
  have e3 := L2.ClsV.all k rv
  subst e3
  obtain ⟨oc, od, dt, sl⟩ := o
  simp only at h2 h3
  subst h2 h3
  exact PySem.W.kia_tup Z I.kIn p h1 e hx fun tk => ⟨.bl b, H, I.tok tk, rfl, q⟩
def tysOf : List D → Option (List String)
  | [] => some []
  | .ty n :: r => (tysOf r).map (n :: ·)
  | _ :: _ => none
def kitAnyB (T : String) : List String → Option Bool
  | [] => some false
  | n :: r => match kitB T n with
    | some true => some true
    | some false => kitAnyB T r
    | none => none
theorem tys_cls {K : PySem.W.Frag} {G : Hp} {T : String} : ∀ {ys : List D} {ns : List String} {cs : List V} {b : Bool}, tysOf ys = some ns → Reps K G ys cs → kitAnyB T ns = some b → ∃ us, Paired L2.ClsV cs us ∧ PySem.W.kitAny K (.type T) us = some b
  | [], ns, cs, b, h, r, e => by
    unfold Reps at r
    cases h
    subst r
    exact ⟨[], .nil, e⟩
  | y :: ys, ns, cs, b, h, r, e => by
    cases y with
    | ty n =>
      unfold tysOf at h
      cases h2 : tysOf ys with
      | none => rw [h2] at h; cases h
      | some ms =>
        rw [h2] at h
        cases h
        unfold Reps at r
        obtain ⟨v, vr, e1, r1, r2⟩ := r
        subst e1
        unfold Rep at r1
        subst r1
        unfold kitAnyB at e
        cases hk : kitB T n with
        | none => rw [hk] at e; cases e
        | some q =>
          rw [hk] at e
          have ko : PySem.W.kitOne K (.type T) (.type n) = some q := kit_ty hk
          have all : ∃ us, Paired L2.ClsV vr us := by
            clear e ko hk
            induction ys generalizing vr ms with
            | nil => unfold Reps at r2; subst r2; exact ⟨[], .nil⟩
            | cons z zs ih =>
              cases z with
              | ty n2 =>
                unfold tysOf at h2
                cases h3 : tysOf zs with
                | none => rw [h3] at h2; cases h2
                | some _ =>
                  unfold Reps at r2
                  obtain ⟨w, wr, e2, q1, q2⟩ := r2
                  subst e2
                  unfold Rep at q1
                  subst q1
                  obtain ⟨us, hu⟩ := ih _ h3 _ q2
                  exact ⟨.type n2 :: us, .cons (.ty n2) hu⟩
              | _ => cases h2
          cases q with
          | true =>
            obtain ⟨us, hu⟩ := all
            refine ⟨.type n :: us, .cons (.ty n) hu, ?_⟩
            unfold PySem.W.kitAny
            rw [ko]
            exact e
          | false =>
            obtain ⟨us, hu, hb⟩ := tys_cls h2 r2 e
            refine ⟨.type n :: us, .cons (.ty n) hu, ?_⟩
            unfold PySem.W.kitAny
            rw [ko]
            exact hb
    | _ => cases h
def rIsiB (K : PySem.W.Frag) : List V → Hp → VK → Prop := fun xs H Q => rIsiA K xs H Q ∨ rIsiS K xs H Q
theorem call_isiB {X : Cx} : CallR X (.builtin "isinstance") (rIsiB X.K) := call_isiA.or call_isiS
def isiB (x : D) : D → Option Bool
  | .ty b => (tyD x).bind fun a => kitB a b
  | .tup ys => (tysOf ys).bind fun ns => (tyD x).bind fun a => kitAnyB a ns
  | _ => none
theorem cad_isiB : CaD c (rIsiB c.K) fun ds k => ∃ x y, ds = [x, y] ∧ ∃ b, isiB x y = some b ∧ k (.d (.bl b)) := by
  intro B G H σ δ rs vs ds Ψ Q F h e hf k
  obtain ⟨x, y, ed, b, hb, q⟩ := hf
  cases y with
  | ty n => exact .inl (cad_isi B G H σ δ rs vs ds Ψ Q F h e ⟨x, .ty n, ed, b, hb, q⟩ k)
  | tup ys =>
    subst ed
    obtain ⟨r, w, r2, w2, er, ew, e3, e4, h3, h4⟩ := views_two e h
    subst er ew
    have hb : ((tysOf ys).bind fun ns => (tyD x).bind fun a => kitAnyB a ns) = some b := hb
    cases hn : tysOf ys with
    | none => rw [hn] at hb; cases hb
    | some ns =>
      cases ht : tyD x with
      | none => rw [hn, ht] at hb; cases hb
      | some T =>
        rw [hn, ht] at hb
        obtain ⟨a, cs, ev, ha, hr⟩ := view_tup F h4 e4
        subst ev
        obtain ⟨us, hu, hk⟩ := tys_cls (K := c.K) hn hr hb
        exact .inr ⟨w, a, cs, .type T, us, b, rfl, ha, hu, tyD_ok F h3 e3 ht, hk, k _ _ G H q (Ex.refl G) (Ex.refl H) F (rv_bl (K := c.K))⟩
  | _ => cases hb
end
end DL

/-! DL20: the closers that the walk uses for DL18, DL19. -/
namespace DL
open PySem PySem.Spec PyProof.Rows L2
section
variable {δ : List Sl} {i : Nat} {a : Addr} {x y : D} {n : Int} {ds : List D} {kds : List (Key × D)} {key : Key} {j : Nat} {Q : Prop}
theorem ex_setBL {P : List D → Nat → Prop} (h1 : δ[i]? = some (.own a (.lst ds))) (h2 : ixN ds.length n = some j) (q : P ds j) :
    (∃ n' ds' j', R.d (.int n) = .d (.int n') ∧ δ[i]? = some (.own a (.lst ds')) ∧ ixN ds'.length n' = some j' ∧ P ds' j') ∨ Q := .inl ⟨n, ds, j, rfl, h1, h2, q⟩
theorem ex_setBD {P : Key → List (Key × D) → Prop} (h1 : δ[i]? = some (.own a (.dct kds))) (hk : dKey x = some key) (h2 : kds.length < 100000) (q : P key kds) :
    Q ∨ ∃ y' key' kds', R.d x = .d y' ∧ dKey y' = some key' ∧ δ[i]? = some (.own a (.dct kds')) ∧ kds'.length < 100000 ∧ P key' kds' := .inr ⟨x, key, kds, rfl, hk, h1, h2, q⟩
theorem ex_popAt {P : List D → Nat → D → Prop} {m : Nat} (h1 : δ[i]? = some (.own a (.lst ds))) (h2 : ds.length ≤ 100000) (h3 : ds[m]? = some x) (q : P ds m x) :
    ∃ (ds' : List D) (n' : Nat) (x' : D), [R.d (.int (m : Nat))] = [.d (.int (n' : Nat))] ∧ δ[i]? = some (.own a (.lst ds')) ∧ ds'.length ≤ 100000 ∧ ds'[n']? = some x' ∧ P ds' n' x' := ⟨ds, m, x, rfl, h1, h2, h3, q⟩
theorem ex_insert {P : List D → Nat → D → Prop} {m : Nat} (h1 : δ[i]? = some (.own a (.lst ds))) (h2 : m ≤ 100000) (h3 : ds.length < 100000) (q : P ds m x) :
    ∃ (ds' : List D) (n' : Nat) (x' : D), [R.d (.int (m : Nat)), R.d x] = [.d (.int (n' : Nat)), .d x'] ∧ δ[i]? = some (.own a (.lst ds')) ∧ n' ≤ 100000 ∧ ds'.length < 100000 ∧ P ds' n' x' := ⟨ds, m, x, rfl, h1, h2, h3, q⟩
end
end DL

/-! DL21: objects of classes of one's own: fields read and written, made, asked. -/
namespace DL
open PySem PySem.Spec PyProof.Rows L2
open Evl (Ex)
theorem view_obj {K : PySem.W.Frag} {B G H : Hp} {σ : St} {δ : List Sl} {r : R} {v : V} {C : Addr} {fs : List (Str × D)} (F : Frame K B G H σ δ) (h : RW K G r v) (e : view δ r = some (.obj C fs)) : ∃ a dx fvs, v = .ref a ∧ H a = some (.ins C dx fvs) ∧ RepF K G fs fvs := by
  cases r with
  | d y =>
    have e' : y = .obj C fs := Option.some.inj e
    subst e'
    have h' : Rep K G (.obj C fs) v := h
    unfold Rep at h'
    obtain ⟨a, dx, xs, e1, h1, h2⟩ := h'
    exact ⟨a, dx, xs, e1, F.exG _ _ h1, h2⟩
  | own a y => exact h.elim
  | deep a y gs => cases e
  | bor i a =>
    have e1 : v = .ref a := h
    obtain ⟨dx, xs, h3, h4⟩ := (view_own F e).1
    exact ⟨a, dx, xs, e1, h3, h4⟩
theorem repF_look {K : PySem.W.Frag} {G : Hp} {f : Str} {x : D} : ∀ {fs : List (Str × D)} {vs : List (Str × V)}, RepF K G fs vs → fs.lookup f = some x → ∃ v, vs.lookup f = some v ∧ Rep K G x v
  | [], vs, h, e => by cases e
  | (g, d) :: fs, vs, h, e => by
    unfold RepF at h
    obtain ⟨v, vr, e1, h1, h2⟩ := h
    subst e1
    rw [List.lookup_cons] at e ⊢
    cases q : f == g with
    | true => rw [q] at e; cases e; exact ⟨v, rfl, h1⟩
    | false => rw [q] at e; exact repF_look h2 e
theorem repF_none {K : PySem.W.Frag} {G : Hp} {f : Str} : ∀ {fs : List (Str × D)} {vs : List (Str × V)}, RepF K G fs vs → fs.lookup f = none → vs.lookup f = none
  | [], vs, h, e => by unfold RepF at h; subst h; rfl
  | (g, d) :: fs, vs, h, e => by
    unfold RepF at h
    obtain ⟨v, vr, e1, h1, h2⟩ := h
    subst e1
    rw [List.lookup_cons] at e ⊢
    cases q : f == g with
    | true => rw [q] at e; cases e
    | false => rw [q] at e; exact repF_none h2 e
theorem repF_len {K : PySem.W.Frag} {G : Hp} : ∀ {fs : List (Str × D)} {vs : List (Str × V)}, RepF K G fs vs → vs.length = fs.length
  | [], vs, h => by unfold RepF at h; subst h; rfl
  | (k, d) :: ds, vs, h => by
    unfold RepF at h
    obtain ⟨v, vr, e, _, h2⟩ := h
    subst e
    simp [repF_len h2]
section
variable {c : Cd} {p : Bool} {δ : List Sl} {te tv : TE} {f : Str}
/-- e.f -/
theorem we_fld {Φ : R → List Sl → Prop} (h : WE c p te δ fun r δ1 => ∃ C fs x, view δ1 (frz r) = some (.obj C fs) ∧ Cls c.K C ∧ NoAttr c.K C f ∧ fs.lookup f = some x ∧ Φ (.d x) δ1) : WE c p (tFld c.K te f) δ Φ := by
  intro B G H σ Q F x k
  refine h B G H σ _ F x fun r1 δ1 v1 G1 H1 w1 e1 F1 rv1 p1 => ?_
  obtain ⟨G1', e1', F1', rw1⟩ := rv1.weak F1
  obtain ⟨C, fs, y, hv, hc, hn, hl, q⟩ := w1
  obtain ⟨a, dx, fvs, ev, ha, hr⟩ := view_obj F1' rw1 hv
  obtain ⟨v, h3, h4⟩ := repF_look hr hl
  exact ⟨a, C, dx, fvs, v, ev, ha, hc, hn, h3, k _ δ1 _ G1' H1 q (e1.trans e1') F1' h4 p1⟩
end
section
variable {K : PySem.W.Frag} {B G G' H H' : Hp} {σ : St} {δ : List Sl}
/-- the call of a def that may raise, objects lent: where it raises they are as they were -/
theorem callX_core {cn : Cn} {S : SpX} {Ψx : Nat → D → List Sl → Prop} {Φ : R → List Sl → Prop} {rs : List R} {as : List Sl} {vs : List V} {Q : VK} {X : XK} (F : Frame K B G H σ δ) (hv : RVs K G rs vs) (hto : toAs δ rs = some as) (nd : (owned as).Nodup)
    (hS : ∀ (P : R → List Sl → Prop) (Y : Nat → D → Prop), (∀ r as', ownOut r → Φ r (backAs δ rs as') → P r as') → (∀ nm x, Ψx nm x (backAs δ rs (lose as)) → Y nm x) → S as P Y)
    (k : ∀ r δ' v G' H', Φ r δ' → Ex G G' → Frame K B G' H' σ δ' → RV K B G' H' δ' r v → (noBor rs = true → δ' = δ ∧ Ex H H') → Q v H')
    (kx : ∀ nm x (d : Addr) v G' H', Ψx nm x (backAs δ rs (lose as)) → Ex G G' → Frame K B G' H' σ (backAs δ rs (lose as)) → G' d = some (.xd v) → RepF K G' (xfs (cn.fl nm) x) v → X (.ref (cn.ad nm)) (some d) H') : liftX K cn S vs H Q X := by
  obtain ⟨Bc, F0, hb⟩ := call_in F hv hto nd
  refine ⟨Bc, G, as, F0, hS _ _ (fun r as' hr hΦ v G' H' eG F' rv => ?_) fun nm y q d v G' H' eG F' hd hr => ?_⟩
  · obtain ⟨F2, hr2, hn⟩ := hb as' G' H' eG F'
    exact k r _ v G' H' hΦ eG F2 (hr2 r v hr rv) hn
  · exact kx nm y d v G' H' q eG (hb _ G' H' eG F').1 hd hr
end
section
variable {cn : Cn} {Ψ : Nat → D → List Sl → Prop} {Wx : WX} {δ : List Sl} {tr : TA}
/-- a call of a def that may raise, objects lent -/
theorem we_callXO {K : PySem.W.Frag} {S : SpX} {Φ : R → List Sl → Prop} (h : WA (cX K cn Ψ Wx) false tr δ fun rs δ1 => ∃ as, toAs δ1 rs = some as ∧ (owned as).Nodup ∧
    ∀ (P : R → List Sl → Prop) (Y : Nat → D → Prop), (∀ r as', ownOut r → Φ r (backAs δ1 rs as') → P r as') → (∀ nm x, Ψ nm x (backAs δ1 rs (lose as)) → Y nm x) → S as P Y) : WE (cX K cn Ψ Wx) false (tCallS (liftX K cn S) (L2.WE Wx) tr) δ Φ := by
  intro B G H σ Q F x k
  refine h B G H σ _ F x fun rs δ1 vs G1 H1 w e1 F1 rv p1 => ?_
  obtain ⟨as, hto, nd, hS⟩ := w
  exact callX_core F1 rv hto nd hS (fun r δ' v G' H' q eG F' rv' n => k r δ' v G' H' q (e1.trans eG) F' rv' fun z => nomatch z)
    fun nm y d v G' H' q eG F' hd hr => x nm y _ σ d v G' H' q (e1.trans eG) F' hd hr
/-- .. where it does not raise -/
theorem we_callXO0 {c : Cd} {S : SpX} {X : XK} {Φ : R → List Sl → Prop} (h : WA c false tr δ fun rs δ1 => ∃ as, toAs δ1 rs = some as ∧ (owned as).Nodup ∧
    ∀ (P : R → List Sl → Prop) (Y : Nat → D → Prop), (∀ r as', ownOut r → Φ r (backAs δ1 rs as') → P r as') → S as P Y) : WE c false (tCall (liftX c.K cn S) [] X tr) δ Φ := by
  intro B G H σ Q F x k
  refine h B G H σ _ F x fun rs δ1 vs G1 H1 w e1 F1 rv p1 => ?_
  obtain ⟨as, hto, nd, hS⟩ := w
  show liftX c.K cn S (vs ++ []) H1 Q X
  rw [List.append_nil]
  exact callX_core (Ψx := fun _ _ _ => False) F1 rv hto nd (fun P Y h1 _ => hS P Y h1) (fun r δ' v G' H' q eG F' rv' n => k r δ' v G' H' q (e1.trans eG) F' rv' fun z => nomatch z)
    fun nm y d v G' H' q => q.elim
end
end DL

/-! DL22: methods, objects made, fields written. -/
namespace DL
open PySem PySem.Spec PyProof.Rows L2
open Evl (Ex)
section
variable {X : Cx} {CX : CXT} {k : Nat} {f C : Addr} {fd : FuncData} {ps : List Str} {sp : Sp} {E : L2.St → XK} {x m : Str} {p pos apos : Pos} {e o : Expr} {es : List Expr} {ta : TE} {t : TA}
theorem runSG {pins : List (Addr × Obj)} {σ : L2.St} {H : Hp} {s : Shared} {Q : VK} {us : List Value} {vs : List V} (F : FnG X.prog X.w X.K X.mg X.base CX k f fd ps sp) (g : GOk X.base X.A) (hr : Room k X.A) (hb : Binds X.K fd ps []) (hx : PassesAt CX X σ (E σ))
    (I : Inv X pins σ H s) (r : Vals vs us) (h : sp vs H Q (E σ)) : wpAny (model X.prog X.w) X.A (call (.ref f) us) (EP X pins σ Q) X.xe s := by
  have many : us.length = ps.length := by rw [← r.length]; exact F.len _ _ _ _ h
  have b := hb s us I.kIn (by rw [List.append_nil]; exact many)
  rw [List.append_nil] at b
  refine wpAny_call (codeAny_mono (F.run X.A X.stack s H ⟨us, []⟩ us vs Q (E σ) g hr I.env0 b r h) fun res s' q' => ?_)
  match res, q' with
  | .error ex, q' => exact hx pins H s ex s' I q'
  | .ok (.ret u), q' => exact I.after q'
/-- o.m(e, ..) -/
def tMethS (m : Str) (sp : Sp) (E : L2.St → XK) (ta : TE) (C : Addr) (t : TA) : TE := fun σ H Q => ta σ H fun x H1 => ∃ a dx fs, x = .ref a ∧ H1 a = some (.ins C dx fs) ∧ fs.lookup m = none ∧ t σ H1 fun vs H2 => sp (x :: vs) H2 Q (E σ)
theorem pe_methSG {pl : Sem Bool} (he : PE X o ta) (c : Cls X.K C) (hm : Meth X.K C m f) (F : FnG X.prog X.w X.K X.mg X.base CX k f fd ps sp) (g : GOk X.base X.A) (hr : Room k X.A) (hb : Binds X.K fd ps []) (hx : ∀ σ, PassesAt CX X σ (E σ)) (ha : PA X (e :: es) t)
    (hst : starEach (e :: es) X.env = (false, eval e X.env) :: starEach es X.env := by rfl) (hpl : (backTo pos (starEach es X.env)).any (·.1) = false := by rfl)
    (ht : eval (.Call (.Attribute o m apos) (e :: es) [] pos) X.env = (do
      let ov ← eval o X.env
      standAt apos.atName
      let (f, first) ← holding [ov] (getMethod ov m pl)
      callWith pos f first (backTo pos (starEach (e :: es) X.env)) (backToKw pos (keywordEach [] X.env))) := by rfl) :
    PE X (.Call (.Attribute o m apos) (e :: es) [] pos) (tMethS m sp E ta C t) := by
  refine ⟨fun pins s σ H Q I h => ?_⟩
  refine PySem.W.methodCall_KW (pl := pl) (thn (he.run pins s σ H _ I h) fun u s1 ⟨x, H1, I1, rx, a, dx, fs, ex, ea, l, q⟩ => ?_) ht
  subst ex
  obtain rfl : u = Value.ref a := rx
  refine getmeth_ok I1 ea c hm l ?_
  refine PySem.W.callWith_K (first := [.ref a]) (h₀ := X.base) I.ok.mod.kin hm.kp (thn (ha.run pos pins s1 σ H1 _ I1 q) fun us s2 ⟨vs, H2, I2, r, q2⟩ => ⟨I2.kIn, ?_⟩) hst hpl
  exact runSG (us := .ref a :: us) (vs := .ref a :: vs) F g hr hb (hx σ) I2 (.cons rfl r) q2
theorem pe_methSG0 {pl : Sem Bool} (he : PE X o ta) (c : Cls X.K C) (hm : Meth X.K C m f) (F : FnG X.prog X.w X.K X.mg X.base CX k f fd ps sp) (g : GOk X.base X.A) (hr : Room k X.A) (hb : Binds X.K fd ps []) (hx : ∀ σ, PassesAt CX X σ (E σ))
    (ht : eval (.Call (.Attribute o m apos) [] [] pos) X.env = (do
      let ov ← eval o X.env
      standAt apos.atName
      let (f, first) ← holding [ov] (getMethod ov m pl)
      callWith pos f first (backTo pos (starEach [] X.env)) (backToKw pos (keywordEach [] X.env))) := by rfl) :
    PE X (.Call (.Attribute o m apos) [] [] pos) (tMethS m sp E ta C tNil) := by
  refine ⟨fun pins s σ H Q I h => ?_⟩
  refine PySem.W.methodCall_KW (pl := pl) (thn (he.run pins s σ H _ I h) fun u s1 ⟨x, H1, I1, rx, a, dx, fs, ex, ea, l, q⟩ => ?_) ht
  subst ex
  obtain rfl : u = Value.ref a := rx
  refine getmeth_ok I1 ea c hm l ?_
  exact PySem.W.callWith_K0 (first := [.ref a]) I1.kIn hm.kp (runSG (us := [.ref a]) (vs := [.ref a]) F g hr hb (hx σ) I1 (.cons rfl .nil) q)
/-- C(e, ..): a new object, then its __init__ -/
def tMakeS (C : Addr) (sp : Sp) (E : L2.St → XK) (t : TA) : TE := fun σ H Q => t σ H fun vs H1 => ∀ x dx, H1 x = none → H1 dx = none → dx ≠ x →
  sp (.ref x :: vs) (upd (upd H1 dx (.own x)) x (.ins C dx [])) (fun v H2 => v = .non ∧ Q (.ref x) H2) (E σ)
theorem run_makeG {pins : List (Addr × Obj)} {σ : L2.St} {H : Hp} {s : Shared} {Q : VK} {us : List Value} {vs : List V} (M : Mk X.K C f) (F : FnG X.prog X.w X.K X.mg X.base CX k f fd ps sp) (g : GOk X.base X.A) (hr : Room (k + 1) X.A) (hb : Binds X.K fd ps [])
    (hx : PassesAt CX X σ (E σ)) (I : Inv X pins σ H s) (r : Vals vs us)
    (h : ∀ x dx, H x = none → H dx = none → dx ≠ x → sp (.ref x :: vs) (upd (upd H dx (.own x)) x (.ins C dx [])) (fun v H2 => v = .non ∧ Q (.ref x) H2) (E σ)) :
    wpAny (model X.prog X.w) X.A (call (.ref C) us) (EP X pins σ Q) X.xe s := by
  have wish := h (s.heap.objs.size + 1) s.heap.objs.size (I.hok.fresh (Nat.le_succ _)) (I.hok.fresh (Nat.le_refl _)) (Nat.ne_of_lt (Nat.lt_succ_self _))
  have J := Inv.made (C := C) I
  have r2 : Vals (V.ref (s.heap.objs.size + 1) :: vs) (Value.ref (s.heap.objs.size + 1) :: us) := .cons rfl r
  have many : (Value.ref (s.heap.objs.size + 1) :: us).length = ps.length := by
    have z := r2.length
    rw [F.len _ _ _ _ wish] at z
    exact z.symm
  have b := hb _ (Value.ref (s.heap.objs.size + 1) :: us) J.kIn (by rw [List.append_nil]; exact many)
  rw [List.append_nil] at b
  refine wpAny_call (make_map (f := f) I.kIn M.makes M.init (beq_iff_eq.mp M.fn) (codeAny_mono (F.run _ X.stack _ _ ⟨Value.ref (s.heap.objs.size + 1) :: us, []⟩ (Value.ref (s.heap.objs.size + 1) :: us) _ _ (E σ) g (hr.make C us [])
    (J.env0.make C us []) b r2 wish) fun res s' hq' => ?_))
  match res, hq' with
  | .error ex, hq' => exact hx pins _ _ ex s' J hq'
  | .ok (.ret u), hq' =>
    obtain ⟨v, H', I3, rv, ev, q3⟩ := J.after hq'
    subst ev
    exact ⟨rv, ⟨V.ref (s.heap.objs.size + 1), H', I3, rfl, q3⟩⟩
theorem pe_makeSG (M : Mk X.K C f) (F : FnG X.prog X.w X.K X.mg X.base CX k f fd ps sp) (g : GOk X.base X.A) (hr : Room (k + 1) X.A) (hg : Gl X x) (hm : X.mg x = some (.ref C)) (hb : Binds X.K fd ps []) (hx : ∀ σ, PassesAt CX X σ (E σ))
    (ha : PA X (e :: es) t) (hdb : (x == ("__debug__" : Str)) = false := by decide) (he : starEach (e :: es) X.env = (false, eval e X.env) :: starEach es X.env := by rfl) (hpl : (backTo pos (starEach es X.env)).any (·.1) = false := by rfl) :
    PE X (.Call (.Name x p) (e :: es) [] pos) (tMakeS C sp E t) := by
  refine ⟨fun pins s σ H Q I h => ?_⟩
  refine wpAny_Call_Name_kw (ld_glob I hg hm ?_ hdb)
  refine PySem.W.callWith_K (h₀ := X.base) I.ok.mod.kin M.kp (thn (ha.run pos pins s σ H _ I h) fun us s1 ⟨vs, H1, I1, r, q⟩ => ⟨I1.kIn, ?_⟩) he hpl
  exact run_makeG M F g hr hb (hx σ) I1 r q
end
end DL

/-! DL23: the words of methods, of objects made, of fields written. -/
namespace DL
open PySem PySem.Spec PyProof.Rows L2
open Evl (Ex)
/-! ### a slot more at the end -/
section
variable {K : PySem.W.Frag} {B G G' H H' : Hp} {σ : St} {δ ε : List Sl}
theorem SlsR.split : ∀ {δ ε : List Sl} {σ τ : St}, σ.length = δ.length → SlsR K G H (δ ++ ε) (σ ++ τ) → SlsR K G H δ σ ∧ SlsR K G H ε τ
  | [], ε, σ, τ, hl, h => by
    cases σ with
    | nil => exact ⟨rfl, h⟩
    | cons _ _ => cases hl
  | s :: δ, ε, σ, τ, hl, h => by
    cases σ with
    | nil => cases hl
    | cons ov σ =>
      obtain ⟨ov', σr, e, h1, h2⟩ := h
      cases e
      obtain ⟨q1, q2⟩ := SlsR.split (by simpa using hl) h2
      exact ⟨⟨ov, σ, rfl, h1, q1⟩, q2⟩
/-- a new object of one's own, as a slot more -/
theorem frame_more {a : Addr} {x : D} (F : Frame K B G H σ δ) (h : OwnR K G H a x) (hB : B a = none) (hG : G a = none) (hO : a ∉ owned δ) : Frame K B G H (σ ++ [some (.ref a)]) (δ ++ [.own a x]) := by
  have e : owned (δ ++ [.own a x]) = owned δ ++ [a] := by rw [owned_append]; rfl
  refine ⟨F.exB, F.exG, F.dis, F.sl.append ⟨_, _, rfl, ⟨rfl, h⟩, rfl⟩, fun b hb => ?_, ?_⟩
  · rw [e] at hb
    rcases List.mem_append.mp hb with q | q
    · exact F.own b q
    · rw [List.mem_singleton.mp q]; exact ⟨hB, hG⟩
  · rw [e]
    refine List.nodup_append.mpr ⟨F.nd, by simp, fun b hb c hc => ?_⟩
    rw [List.mem_singleton.mp hc]
    exact fun z => hO (by rw [← z]; exact hb)
/-- a slot's own, as what is handed on -/
inductive OutS (a : Addr) : Sl → R → Prop
  | own (x : D) : OutS a (.own a x) (.own a x)
  | deep (x : D) (gs : List (Addr × D)) : OutS a (.deep a x gs) (.deep a x gs)
theorem frame_less {ov : Option V} {s : Sl} (hl : σ.length = δ.length) (F : Frame K B G H (σ ++ [ov]) (δ ++ [s])) : Frame K B G H σ δ ∧ ∀ a r, OutS a s r → ov = some (.ref a) ∧ RV K B G H δ r (.ref a) := by
  obtain ⟨h1, h2⟩ := SlsR.split hl F.sl
  have sub : (owned δ).Sublist (owned (δ ++ [s])) := by rw [owned_append]; exact List.sublist_append_left _ _
  refine ⟨⟨F.exB, F.exG, F.dis, h1, fun b hb => F.own b (sub.subset hb), F.nd.sublist sub⟩, fun a r e => ?_⟩
  obtain ⟨ov', σr, e2, h3, _⟩ := h2
  cases e2
  have eo : owned (δ ++ [s]) = owned δ ++ ads s := by rw [owned_append, owned_cons]; simp [owned]
  have nd := F.nd
  rw [eo] at nd
  have nd' := List.nodup_append.mp nd
  have all : ∀ b ∈ ads s, B b = none ∧ G b = none ∧ b ∉ owned δ := fun b hb => by
    have hb' : b ∈ owned (δ ++ [s]) := by rw [eo]; exact List.mem_append_right _ hb
    exact ⟨(F.own b hb').1, (F.own b hb').2, fun z => nd'.2.2 b z b hb rfl⟩
  cases e with
  | own x =>
    have ha := all a (List.mem_singleton.mpr rfl)
    exact ⟨h3.1, rfl, h3.2, ha.1, ha.2.1, ha.2.2⟩
  | deep x gs => exact ⟨h3.1, rfl, h3.2.1, h3.2.2, all, nd'.2.1⟩
theorem toAs_app : ∀ {rs : List R} {as : List Sl}, toAs δ rs = some as → toAs (δ ++ ε) rs = some as
  | [], as, e => e
  | .d x :: rs, as, e => by
    unfold toAs at e ⊢
    cases q : toAs δ rs with
    | none => rw [q] at e; cases e
    | some es => rw [q] at e; rw [toAs_app q]; exact e
  | .own a x :: rs, as, e => by cases e
  | .deep a x gs :: rs, as, e => by cases e
  | .bor i a :: rs, as, e => by
    unfold toAs at e ⊢
    split at e
    · rename_i b x hx
      have hlt : i < δ.length := (List.getElem?_eq_some_iff.mp hx).1
      rw [List.getElem?_append_left hlt, hx]
      dsimp only
      split at e
      · rename_i hab
        rw [if_pos hab]
        cases q : toAs δ rs with
        | none => rw [q] at e; cases e
        | some es => rw [q] at e; rw [toAs_app q]; exact e
      · cases e
    · rename_i b x gs hx
      have hlt : i < δ.length := (List.getElem?_eq_some_iff.mp hx).1
      rw [List.getElem?_append_left hlt, hx]
      dsimp only
      split at e
      · rename_i hab
        rw [if_pos hab]
        cases q : toAs δ rs with
        | none => rw [q] at e; cases e
        | some es => rw [q] at e; rw [toAs_app q]; exact e
      · cases e
    · cases e
theorem toAs_lt (F : Frame K B G H σ δ) {rs : List R} {as : List Sl} {i : Nat} {a : Addr} (h : toAs δ rs = some as) (m : R.bor i a ∈ rs) : i < δ.length := by
  obtain ⟨⟨s, hs⟩, _⟩ := toAs_at F h m
  exact (List.getElem?_eq_some_iff.mp hs).1
theorem clr_len (rs : List R) : (clr δ rs).length = δ.length := clr_size rs
theorem clr_app : ∀ {rs : List R}, (∀ i a, R.bor i a ∈ rs → i < δ.length) → clr (δ ++ ε) rs = clr δ rs ++ ε
  | [], _ => rfl
  | .d x :: rs, h => clr_app (rs := rs) fun i a m => h i a (List.mem_cons_of_mem _ m)
  | .own a x :: rs, h => clr_app (rs := rs) fun i a m => h i a (List.mem_cons_of_mem _ m)
  | .deep a x gs :: rs, h => clr_app (rs := rs) fun i a m => h i a (List.mem_cons_of_mem _ m)
  | .bor i a :: rs, h => by
    show (clr (δ ++ ε) rs).set i .no = (clr δ rs).set i .no ++ ε
    rw [clr_app (rs := rs) fun i a m => h i a (List.mem_cons_of_mem _ m), List.set_append_left _ _ (by rw [clr_len]; exact h i a List.mem_cons_self)]
theorem fill_len (rs : List R) (as : List Sl) (δ : List Sl) : (fill δ rs as).length = δ.length := fill_size rs as δ
theorem fill_app : ∀ (rs : List R) (as : List Sl) (δ : List Sl), (∀ i a, R.bor i a ∈ rs → i < δ.length) → fill (δ ++ ε) rs as = fill δ rs as ++ ε
  | [], as, δ, _ => by cases as <;> rfl
  | .d x :: rs, [], δ, _ => rfl
  | .own a x :: rs, [], δ, _ => rfl
  | .deep a x gs :: rs, [], δ, _ => rfl
  | .bor i a :: rs, [], δ, _ => rfl
  | .d x :: rs, s :: as, δ, h => fill_app rs as δ fun i a m => h i a (List.mem_cons_of_mem _ m)
  | .own a x :: rs, s :: as, δ, h => fill_app rs as δ fun i a m => h i a (List.mem_cons_of_mem _ m)
  | .deep a x gs :: rs, s :: as, δ, h => fill_app rs as δ fun i a m => h i a (List.mem_cons_of_mem _ m)
  | .bor i a :: rs, s :: as, δ, h => by
    show (fill (δ ++ ε) rs as).set i s = (fill δ rs as).set i s ++ ε
    rw [fill_app rs as δ fun i a m => h i a (List.mem_cons_of_mem _ m), List.set_append_left _ _ (by rw [fill_len]; exact h i a List.mem_cons_self)]
theorem clr_more {n : Nat} {a : Addr} {s : Sl} {rs : List R} (hn : n = δ.length) (h : ∀ i a, R.bor i a ∈ rs → i < δ.length) : clr (δ ++ [s]) (.bor n a :: rs) = clr δ rs ++ [.no] := by
  show (clr (δ ++ [s]) rs).set n .no = _
  rw [clr_app h, List.set_append_right _ _ (by rw [clr_len, hn]; exact Nat.le_refl _), clr_len, hn, Nat.sub_self]
  rfl
theorem back_more {n : Nat} {a : Addr} {s s' : Sl} {rs : List R} {as : List Sl} (hn : n = δ.length) (h : ∀ i a, R.bor i a ∈ rs → i < δ.length) : backAs (δ ++ [s]) (.bor n a :: rs) (s' :: as) = backAs δ rs as ++ [s'] := by
  unfold backAs
  rw [clr_more hn h]
  show (fill (clr δ rs ++ [.no]) rs as).set n s' = _
  rw [fill_app rs as _ fun i a m => by rw [clr_len]; exact h i a m]
  rw [List.set_append_right _ _ (by rw [fill_len, clr_len, hn]; exact Nat.le_refl _), fill_len, clr_len, hn, Nat.sub_self]
  rfl
end
section
variable {c : Cd} {cn : Cn} {Ψ : Nat → D → List Sl → Prop} {Wx : WX} {δ : List Sl} {te tv : TE} {tr : TA} {C : Addr} {m : Str} {Φ : R → List Sl → Prop}
theorem frame_obj {K : PySem.W.Frag} {B G H : Hp} {σ : L2.St} {x dx : Addr} (F : Frame K B G H σ δ) (hx : H x = none) (hd : H dx = none) (hne : dx ≠ x) : Frame K B G (upd (upd H dx (.own x)) x (.ins C dx [])) (σ ++ [some (.ref x)]) (δ ++ [.own x (.obj C [])]) := by
  obtain ⟨h1, h2, h3⟩ := F.fresh hx
  have hx2 : (upd H dx (.own x)) x = none := by rw [upd_ne (fun z => hne z.symm)]; exact hx
  have F2 := (F.ex (Ex.new (o := .own x) hd)).ex (Ex.new (o := .ins C dx []) hx2)
  exact frame_more F2 ⟨dx, [], upd_same, by unfold RepF; rfl⟩ h1 h2 h3
theorem make_in {K : PySem.W.Frag} {B G1 H1 : Hp} {σ : L2.St} {δ1 : List Sl} {rs : List R} {as : List Sl} {vs : List V} {x dx : Addr} (F1 : Frame K B G1 H1 σ δ1) (rv : RVs K G1 rs vs) (hto : toAs δ1 rs = some as) (nd : (owned as).Nodup) (hx : H1 x = none) :
    (∀ i a, R.bor i a ∈ rs → i < δ1.length) ∧ toAs (δ1 ++ [.own x (.obj C [])]) (.bor δ1.length x :: rs) = some (.own x (.obj C []) :: as) ∧ (owned (.own x (.obj C []) :: as)).Nodup := by
  have hat : (δ1 ++ [Sl.own x (.obj C [])])[δ1.length]? = some (.own x (.obj C [])) := by simp
  refine ⟨fun i a hm => toAs_lt F1 hto hm, ?_, ?_⟩
  · unfold toAs
    rw [hat]
    dsimp only
    rw [if_pos rfl, toAs_app hto]
    rfl
  · show (x :: owned as).Nodup
    refine List.nodup_cons.mpr ⟨fun z => ?_, nd⟩
    rw [toAs_owned hto] at z
    obtain ⟨i, a, s, hi, hs, hm⟩ := lent_mem z
    exact (F1.fresh hx).2.2 (owned_getA hs hm)
/-- C(..), its __init__ raising nothing by its contract -/
theorem we_make {S : SpD} {E : L2.St → XK} (h : WA c false tr δ fun rs δ1 => ∃ as, toAs δ1 rs = some as ∧ (owned as).Nodup ∧
    ∀ (x : Addr) (P : R → List Sl → Prop), (∀ s r as', OutS x s r → Φ r (backAs δ1 rs as') → P (.d .non) (s :: as')) → S (.own x (.obj C []) :: as) P) : WE c false (tMakeS C (lift c.K S) E tr) δ Φ := by
  intro B G H σ Q F xk k
  refine h B G H σ _ F xk fun rs δ1 vs G1 H1 w e1 F1 rv p1 => ?_
  obtain ⟨as, hto, nd, hS⟩ := w
  intro x dx hx hd hne
  have F3 := frame_obj (C := C) F1 hx hd hne
  obtain ⟨hlt, hto', nd'⟩ := make_in (C := C) (dx := dx) F1 rv hto nd hx
  refine call_core (Φ := fun r δ2 => r = .d .non ∧ ∃ s r' δ3, OutS x s r' ∧ δ2 = δ3 ++ [s] ∧ Φ r' δ3) F3 (rs := .bor δ1.length x :: rs) (vs := .ref x :: vs) ⟨.ref x, vs, rfl, rfl, rv⟩ hto' nd' (fun P hP => hS x P fun s r as' ho q => hP _ _ trivial ⟨rfl, s, r, _, ho, back_more rfl hlt, q⟩) fun r δ2 v G' H' q eG F' rv' n => ?_
  obtain ⟨er, s, r', δ3, ho, ed, q⟩ := q
  subst er ed
  have ev : v = .non := by have z : Rep c.K G' .non v := rv'; unfold Rep at z; exact z
  have hl : σ.length = δ3.length := by have z := F'.sl.len; simpa using z
  obtain ⟨F4, ow⟩ := frame_less hl F'
  exact ⟨ev, k _ δ3 _ G' H' q (e1.trans eG) F4 (ow x r' ho).2 fun z => nomatch z⟩
/-- C(..), its __init__ may raise -/
theorem make_core {S : SpX} {Ψx : Nat → D → List Sl → Prop} {K : PySem.W.Frag} {B G1 H1 : Hp} {σ : L2.St} {δ1 : List Sl} {rs : List R} {as : List Sl} {vs : List V} {Q : VK} {E : XK} {x dx : Addr} (F1 : Frame K B G1 H1 σ δ1) (rv : RVs K G1 rs vs) (hto : toAs δ1 rs = some as) (nd : (owned as).Nodup)
    (hx : H1 x = none) (hd : H1 dx = none) (hne : dx ≠ x)
    (hS : ∀ (P : R → List Sl → Prop) (Y : Nat → D → Prop), (∀ s r as', OutS x s r → Φ r (backAs δ1 rs as') → P (.d .non) (s :: as')) → (∀ nm y, Ψx nm y δ1 → Y nm y) → S (.own x (.obj C []) :: as) P Y)
    (k : ∀ r δ' v G' H', Φ r δ' → Ex G1 G' → Frame K B G' H' σ δ' → RV K B G' H' δ' r v → Q v H')
    (kx : ∀ nm y (d : Addr) v G' H', Ψx nm y δ1 → Ex G1 G' → Frame K B G' H' σ δ1 → G' d = some (.xd v) → RepF K G' (xfs (cn.fl nm) y) v → E (.ref (cn.ad nm)) (some d) H') :
    liftX K cn S (.ref x :: vs) (upd (upd H1 dx (.own x)) x (.ins C dx [])) (fun v H2 => v = .non ∧ Q (.ref x) H2) E := by
  have F3 := frame_obj (C := C) F1 hx hd hne
  obtain ⟨hlt, hto', nd'⟩ := make_in (C := C) (dx := dx) F1 rv hto nd hx
  have hlen : σ.length = δ1.length := F1.sl.len
  have el : backAs (δ1 ++ [.own x (.obj C [])]) (.bor δ1.length x :: rs) (lose (.own x (.obj C []) :: as)) = δ1 ++ [.no] := by
    show backAs _ _ (.no :: as) = _
    rw [back_more rfl hlt, toAs_back hto]
  refine callX_core (Ψx := fun nm y δ2 => Ψx nm y δ1) (Φ := fun r δ2 => r = .d .non ∧ ∃ s r' δ3, OutS x s r' ∧ δ2 = δ3 ++ [s] ∧ Φ r' δ3) F3 (rs := .bor δ1.length x :: rs) (vs := .ref x :: vs) ⟨.ref x, vs, rfl, rfl, rv⟩ hto' nd'
    (fun P Y hP hY => hS P Y (fun s r as' ho q => hP _ _ trivial ⟨rfl, s, r, _, ho, back_more rfl hlt, q⟩) hY) (fun r δ2 v G' H' q eG F' rv' n => ?_) fun nm y d v G' H' q eG F' h1 h2 => ?_
  · obtain ⟨er, s, r', δ3, ho, ed, q⟩ := q
    subst er ed
    have ev : v = .non := by have z : Rep K G' .non v := rv'; unfold Rep at z; exact z
    have hl : σ.length = δ3.length := by have z := F'.sl.len; simpa using z
    obtain ⟨F4, ow⟩ := frame_less hl F'
    exact ⟨ev, k _ δ3 _ G' H' q eG F4 (ow x r' ho).2⟩
  · rw [el] at F'
    exact kx nm y d v G' H' q eG (frame_less hlen F').1 h1 h2
theorem we_makeX {K : PySem.W.Frag} {S : SpX} (h : WA (cX K cn Ψ Wx) false tr δ fun rs δ1 => ∃ as, toAs δ1 rs = some as ∧ (owned as).Nodup ∧
    ∀ (x : Addr) (P : R → List Sl → Prop) (Y : Nat → D → Prop), (∀ s r as', OutS x s r → Φ r (backAs δ1 rs as') → P (.d .non) (s :: as')) → (∀ nm y, Ψ nm y δ1 → Y nm y) → S (.own x (.obj C []) :: as) P Y) : WE (cX K cn Ψ Wx) false (tMakeS C (liftX K cn S) (L2.WE Wx) tr) δ Φ := by
  intro B G H σ Q F xk k
  refine h B G H σ _ F xk fun rs δ1 vs G1 H1 w e1 F1 rv p1 => ?_
  obtain ⟨as, hto, nd, hS⟩ := w
  intro x dx hx hd hne
  exact make_core (Φ := Φ) F1 rv hto nd hx hd hne (hS x) (fun r δ' v G' H' q eG F' rv' => k r δ' v G' H' q (e1.trans eG) F' rv' fun z => nomatch z)
    fun nm y d v G' H' q eG F' h1 h2 => xk nm y _ σ d v G' H' q (e1.trans eG) F' h1 h2
theorem we_makeX0 {S : SpX} {E : L2.St → XK} (h : WA c false tr δ fun rs δ1 => ∃ as, toAs δ1 rs = some as ∧ (owned as).Nodup ∧
    ∀ (x : Addr) (P : R → List Sl → Prop) (Y : Nat → D → Prop), (∀ s r as', OutS x s r → Φ r (backAs δ1 rs as') → P (.d .non) (s :: as')) → S (.own x (.obj C []) :: as) P Y) : WE c false (tMakeS C (liftX c.K cn S) E tr) δ Φ := by
  intro B G H σ Q F xk k
  refine h B G H σ _ F xk fun rs δ1 vs G1 H1 w e1 F1 rv p1 => ?_
  obtain ⟨as, hto, nd, hS⟩ := w
  intro x dx hx hd hne
  exact make_core (Φ := Φ) (Ψx := fun _ _ _ => False) F1 rv hto nd hx hd hne (fun P Y h1 _ => hS x P Y h1) (fun r δ' v G' H' q eG F' rv' => k r δ' v G' H' q (e1.trans eG) F' rv' fun z => nomatch z)
    fun nm y d v G' H' q => q.elim
/-- o.m(..) -/
theorem we_meth {S : SpD} {E : L2.St → XK} (h : WE c false te δ fun r1 δ1 => (∃ fs, view δ1 (frz r1) = some (.obj C fs) ∧ fs.lookup m = none) ∧ WA c false tr δ1 fun rs δ2 => ∃ as, toAs δ2 (frz r1 :: rs) = some as ∧ (owned as).Nodup ∧
    ∀ P : R → List Sl → Prop, (∀ r as', ownOut r → Φ r (backAs δ2 (frz r1 :: rs) as') → P r as') → S as P) : WE c false (tMethS m (lift c.K S) E te C tr) δ Φ := by
  intro B G H σ Q F xk k
  refine h B G H σ _ F xk fun r1 δ1 v1 G1 H1 w1 e1 F1 rv1 p1 => ?_
  obtain ⟨⟨fs, hv, hl⟩, w1⟩ := w1
  obtain ⟨G1', e1', F1', rw1⟩ := rv1.weak F1
  obtain ⟨a, dx, fvs, ev, ha, hr⟩ := view_obj F1' rw1 hv
  refine ⟨a, dx, fvs, ev, ha, repF_none hr hl, ?_⟩
  refine w1 B G1' H1 σ _ F1' (c.mono _ _ _ (e1.trans e1') xk) fun rs δ2 vs G2 H2 w2 e2 F2 rv2 p2 => ?_
  obtain ⟨as, hto, nd, hS⟩ := w2
  exact call_core F2 (rs := frz r1 :: rs) (vs := v1 :: vs) ⟨v1, vs, rfl, rw1.mono e2, rv2⟩ hto nd hS fun r δ' v G' H' q eG F' rv' n => k r δ' v G' H' q ((e1.trans e1').trans (e2.trans eG)) F' rv' fun z => nomatch z
theorem we_methX {K : PySem.W.Frag} {S : SpX} (h : WE (cX K cn Ψ Wx) false te δ fun r1 δ1 => (∃ fs, view δ1 (frz r1) = some (.obj C fs) ∧ fs.lookup m = none) ∧ WA (cX K cn Ψ Wx) false tr δ1 fun rs δ2 => ∃ as, toAs δ2 (frz r1 :: rs) = some as ∧ (owned as).Nodup ∧
    ∀ (P : R → List Sl → Prop) (Y : Nat → D → Prop), (∀ r as', ownOut r → Φ r (backAs δ2 (frz r1 :: rs) as') → P r as') → (∀ nm y, Ψ nm y (backAs δ2 (frz r1 :: rs) (lose as)) → Y nm y) → S as P Y) : WE (cX K cn Ψ Wx) false (tMethS m (liftX K cn S) (L2.WE Wx) te C tr) δ Φ := by
  intro B G H σ Q F xk k
  refine h B G H σ _ F xk fun r1 δ1 v1 G1 H1 w1 e1 F1 rv1 p1 => ?_
  obtain ⟨⟨fs, hv, hl⟩, w1⟩ := w1
  obtain ⟨G1', e1', F1', rw1⟩ := rv1.weak F1
  obtain ⟨a, dx, fvs, ev, ha, hr⟩ := view_obj F1' rw1 hv
  refine ⟨a, dx, fvs, ev, ha, repF_none hr hl, ?_⟩
  refine w1 B G1' H1 σ _ F1' ((cX K cn Ψ Wx).mono _ _ _ (e1.trans e1') xk) fun rs δ2 vs G2 H2 w2 e2 F2 rv2 p2 => ?_
  obtain ⟨as, hto, nd, hS⟩ := w2
  exact callX_core F2 (rs := frz r1 :: rs) (vs := v1 :: vs) ⟨v1, vs, rfl, rw1.mono e2, rv2⟩ hto nd hS (fun r δ' v G' H' q eG F' rv' n => k r δ' v G' H' q ((e1.trans e1').trans (e2.trans eG)) F' rv' fun z => nomatch z)
    fun nm y d v G' H' q eG F' h1 h2 => xk nm y _ σ d v G' H' q ((e1.trans e1').trans (e2.trans eG)) F' h1 h2
theorem we_methX0 {S : SpX} {E : L2.St → XK} (h : WE c false te δ fun r1 δ1 => (∃ fs, view δ1 (frz r1) = some (.obj C fs) ∧ fs.lookup m = none) ∧ WA c false tr δ1 fun rs δ2 => ∃ as, toAs δ2 (frz r1 :: rs) = some as ∧ (owned as).Nodup ∧
    ∀ (P : R → List Sl → Prop) (Y : Nat → D → Prop), (∀ r as', ownOut r → Φ r (backAs δ2 (frz r1 :: rs) as') → P r as') → S as P Y) : WE c false (tMethS m (liftX c.K cn S) E te C tr) δ Φ := by
  intro B G H σ Q F xk k
  refine h B G H σ _ F xk fun r1 δ1 v1 G1 H1 w1 e1 F1 rv1 p1 => ?_
  obtain ⟨⟨fs, hv, hl⟩, w1⟩ := w1
  obtain ⟨G1', e1', F1', rw1⟩ := rv1.weak F1
  obtain ⟨a, dx, fvs, ev, ha, hr⟩ := view_obj F1' rw1 hv
  refine ⟨a, dx, fvs, ev, ha, repF_none hr hl, ?_⟩
  refine w1 B G1' H1 σ _ F1' (c.mono _ _ _ (e1.trans e1') xk) fun rs δ2 vs G2 H2 w2 e2 F2 rv2 p2 => ?_
  obtain ⟨as, hto, nd, hS⟩ := w2
  exact callX_core (Ψx := fun _ _ _ => False) F2 (rs := frz r1 :: rs) (vs := v1 :: vs) ⟨v1, vs, rfl, rw1.mono e2, rv2⟩ hto nd (fun P Y h1 _ => hS P Y h1) (fun r δ' v G' H' q eG F' rv' n => k r δ' v G' H' q ((e1.trans e1').trans (e2.trans eG)) F' rv' fun z => nomatch z)
    fun nm y d v G' H' q => q.elim
/-! ### o.f = e -/
def putFD (f : Str) (x : D) : List (Str × D) → List (Str × D)
  | [] => [(f, x)]
  | (g, y) :: r => if g = f then (g, x) :: r else (g, y) :: putFD f x r
theorem repF_put {K : PySem.W.Frag} {G : Hp} {f : Str} {x : D} {w : V} (hx : Rep K G x w) : ∀ {fs : List (Str × D)} {vs : List (Str × V)}, RepF K G fs vs → RepF K G (putFD f x fs) (putF f w vs)
  | [], vs, h => by
    unfold RepF at h
    subst h
    unfold putFD putF RepF
    exact ⟨w, [], rfl, hx, by unfold RepF; rfl⟩
  | (g, d) :: fs, vs, h => by
    unfold RepF at h
    obtain ⟨v, vr, e, h1, h2⟩ := h
    subst e
    unfold putFD putF
    by_cases q : g = f
    · rw [if_pos q, if_pos q]
      unfold RepF
      exact ⟨w, vr, rfl, hx, h2⟩
    · rw [if_neg q, if_neg q]
      unfold RepF
      exact ⟨v, _, rfl, h1, repF_put hx h2⟩
theorem w_setF {N Bk Ct : List Sl → Prop} {Rt : R → List Sl → Prop} {f : Str} (h : WE c false tv δ fun r δ1 => ∃ x, frz r = .d x ∧ WE c false te δ1 fun r2 δ2 => ∃ i a C fs, r2 = .bor i a ∧ δ2[i]? = some (.own a (.obj C fs)) ∧ Cls c.K C ∧ NoAttr c.K C f ∧ fs.length < 1000 ∧ ∀ δ3, δ3 = δ2.set i (.own a (.obj C (putFD f x fs))) → N δ3) :
    W c (sFld c.K te tv f) δ N Rt Bk Ct := by
  intro B G H σ D0 F xk hE
  refine h B G H σ _ F xk fun r1 δ1 v1 G1 H1 w1 e1 F1 rv1 p1 => ?_
  obtain ⟨y, hy, w1⟩ := w1
  obtain ⟨G1', e1', F1', rw1⟩ := rv1.weak F1
  rw [hy] at rw1
  refine w1 B G1' H1 σ _ F1' (c.mono _ _ _ (e1.trans e1') xk) fun r2 δ2 v2 G2 H2 w2 e2 F2 rv2 p2 => ?_
  obtain ⟨i, a, C, fs, er, hd, hc, hn, hl, w2⟩ := w2
  subst er
  obtain ⟨ev, _⟩ := rv2
  subst ev
  obtain ⟨ov, _, _, dx, fvs, ha, hr⟩ := F2.get hd
  have hv : Rep c.K G2 y v1 := Rep.mono e2 (show Rep c.K G1' y v1 from rw1)
  exact ⟨a, C, dx, fvs, rfl, ha, hc, hn, by rw [repF_len hr]; exact hl, hE.nx _ _ G2 _ (w2 _ rfl) ((e1.trans e1').trans e2) (frame_mut F2 hd ⟨dx, _, upd_same, repF_put hv hr⟩)⟩
end
end DL

/-! DL24: what the text's end leans on for own classes. -/
namespace DL
open PySem PySem.Spec PyProof.Rows L2
theorem passLA {X : Cx} (σ : L2.St) : PassesAt (L2.CX X.prog X.w) X σ E0 := fun pins H s e s' I c => passL pins σ H s e s' I c
/-- a class's method -/
structure MethOk (K : PySem.W.Frag) (C : Addr) (m qual : Str) (st : Stmt) (ps : List Str) (a : Addr) (fd : FuncData) : Prop where
  fn : Fun K m qual st a fd
  b : Binds K fd ps []
  m : Meth K C m a
end DL

/-! DL25: dicts that are walked (locked meanwhile), a slot's own lent as data, list(d.values()), max of a list. -/
namespace DL
open PySem PySem.Spec PyProof.Rows L2
open Evl (Ex)
/-! ### a dict locked, unlocked: what is read stays -/
/-- a dict's content -/
def Dky (u : HO) : Prop := (∃ kvs, u = .dK kvs) ∨ ∃ kvs, u = .dT kvs
/-- the same but for a dict that is locked or unlocked -/
def LE (G G' : Hp) : Prop := ∀ b o, G b = some o → G' b = some o ∨ ∃ u, Dky u ∧ Rd G b u ∧ Rd G' b u
section
variable {K : PySem.W.Frag} {G G' : Hp}
theorem LE.of (e : Ex G G') : LE G G' := fun b o h => .inl (e b o h)
theorem Dky.frz {o : Obj} {u : HO} (h : Dky (.frz o u)) : False := by rcases h with ⟨_, e⟩ | ⟨_, e⟩ <;> cases e
theorem LE.rd (e : LE G G') {a : Addr} {u : HO} (hu : ∀ o w, u ≠ .frz o w) (h : Rd G a u) : Rd G' a u := by
  rcases h with h | ⟨o, h⟩
  · rcases e a _ h with q | ⟨w, d, q1, q2⟩
    · exact .inl q
    · rcases q1 with q1 | ⟨o', q1⟩
      · rw [h] at q1; cases q1; exact q2
      · rw [h] at q1
        cases q1
        exact absurd rfl (hu _ _)
  · rcases e a _ h with q | ⟨w, d, q1, q2⟩
    · exact .inr ⟨o, q⟩
    · rcases q1 with q1 | ⟨o', q1⟩
      · rw [h] at q1; cases q1; exact d.frz.elim
      · rw [h] at q1; cases q1; exact q2
theorem LE.l (e : LE G G') {a : Addr} {xs : List V} (h : SqL K G a xs) : SqL K G' a xs := by
  rcases h with h | h
  · exact .inl (e.rd (fun _ _ z => nomatch z) h)
  · exact .inr h
theorem LE.t (e : LE G G') {a : Addr} {xs : List V} (h : SqT K G a xs) : SqT K G' a xs := by
  rcases h with h | h
  · exact .inl (e.rd (fun _ _ z => nomatch z) h)
  · exact .inr h
mutual
theorem Rep.le (e : LE G G') : ∀ {d : D} {v : V}, Rep K G d v → Rep K G' d v
  | .non, _, h => h
  | .bl _, _, h => h
  | .int _, _, h => h
  | .str _, _, h => h
  | .ty _, _, h => h
  | .ptr _, _, h => h
  | .lst ds, v, h => by
    unfold Rep at h ⊢
    obtain ⟨a, xs, e1, h1, h2⟩ := h
    refine ⟨a, xs, e1, ?_, Reps.le e h2⟩
    rcases e a _ h1 with q | ⟨w, d, q1, q2⟩
    · exact q
    · rcases q1 with q1 | ⟨o', q1⟩
      · rw [h1] at q1; cases q1; rcases d with ⟨_, z⟩ | ⟨_, z⟩ <;> cases z
      · rw [h1] at q1; cases q1
  | .ro ds, v, h => by
    unfold Rep at h ⊢
    obtain ⟨a, xs, e1, h1, h2⟩ := h
    exact ⟨a, xs, e1, e.l h1, Reps.le e h2⟩
  | .tup ds, v, h => by
    unfold Rep at h ⊢
    obtain ⟨a, xs, e1, h1, h2⟩ := h
    refine ⟨a, xs, e1, ?_, Reps.le e h2⟩
    rcases e a _ h1 with q | ⟨w, d, q1, q2⟩
    · exact q
    · rcases q1 with q1 | ⟨o', q1⟩
      · rw [h1] at q1; cases q1; rcases d with ⟨_, z⟩ | ⟨_, z⟩ <;> cases z
      · rw [h1] at q1; cases q1
  | .dct ds, v, h => by
    unfold Rep at h ⊢
    obtain ⟨a, xs, e1, h1, h2⟩ := h
    exact ⟨a, xs, e1, e.rd (fun _ _ z => nomatch z) h1, RepK.le e h2⟩
  | .dcT ds, v, h => by
    unfold Rep at h ⊢
    obtain ⟨a, xs, e1, h1, h2⟩ := h
    exact ⟨a, xs, e1, e.rd (fun _ _ z => nomatch z) h1, RepT.le e h2⟩
  | .obj C fs, v, h => by
    unfold Rep at h ⊢
    obtain ⟨a, dx, xs, e1, h1, h2⟩ := h
    refine ⟨a, dx, xs, e1, ?_, RepF.le e h2⟩
    rcases e a _ h1 with q | ⟨w, d, q1, q2⟩
    · exact q
    · rcases q1 with q1 | ⟨o', q1⟩
      · rw [h1] at q1; cases q1; rcases d with ⟨_, z⟩ | ⟨_, z⟩ <;> cases z
      · rw [h1] at q1; cases q1
theorem Reps.le (e : LE G G') : ∀ {ds : List D} {vs : List V}, Reps K G ds vs → Reps K G' ds vs
  | [], _, h => h
  | d :: ds, vs, h => by
    unfold Reps at h ⊢
    obtain ⟨v, vr, e1, h1, h2⟩ := h
    exact ⟨v, vr, e1, Rep.le e h1, Reps.le e h2⟩
theorem RepK.le (e : LE G G') : ∀ {ds : List (Key × D)} {vs : List (Key × V)}, RepK K G ds vs → RepK K G' ds vs
  | [], _, h => h
  | (k, d) :: ds, vs, h => by
    unfold RepK at h ⊢
    obtain ⟨v, vr, e1, h1, h2⟩ := h
    exact ⟨v, vr, e1, Rep.le e h1, RepK.le e h2⟩
theorem RepT.le (e : LE G G') : ∀ {ds : List (List Key × D)} {vs : List (List Key × V)}, RepT K G ds vs → RepT K G' ds vs
  | [], _, h => h
  | (k, d) :: ds, vs, h => by
    unfold RepT at h ⊢
    obtain ⟨v, vr, e1, h1, h2⟩ := h
    exact ⟨v, vr, e1, Rep.le e h1, RepT.le e h2⟩
theorem RepF.le (e : LE G G') : ∀ {ds : List (Str × D)} {vs : List (Str × V)}, RepF K G ds vs → RepF K G' ds vs
  | [], _, h => h
  | (k, d) :: ds, vs, h => by
    unfold RepF at h ⊢
    obtain ⟨v, vr, e1, h1, h2⟩ := h
    exact ⟨v, vr, e1, Rep.le e h1, RepF.le e h2⟩
end
variable {B H H' : Hp} {σ : St} {δ : List Sl}
theorem OwnR.le {a : Addr} {x : D} (e : LE G G') (h : OwnR K G H a x) (hH : H' a = H a) : OwnR K G' H' a x := by
  cases x with
  | lst ds => obtain ⟨xs, h1, h2⟩ := h; exact ⟨xs, hH.trans h1, h2.le e⟩
  | dct ds => obtain ⟨xs, h1, h2⟩ := h; exact ⟨xs, hH.trans h1, h2.le e⟩
  | dcT ds => obtain ⟨xs, h1, h2⟩ := h; exact ⟨xs, hH.trans h1, h2.le e⟩
  | obj C ds => obtain ⟨dx, xs, h1, h2⟩ := h; exact ⟨dx, xs, hH.trans h1, h2.le e⟩
  | _ => exact h.elim
theorem SlR.le {s : Sl} {ov : Option V} (e : LE G G') (eH : ∀ a ∈ ads s, H' a = H a) (h : SlR K G H s ov) : SlR K G' H' s ov := by
  cases s with
  | no => trivial
  | d x => obtain ⟨v, e1, r⟩ := h; exact ⟨v, e1, r.le e⟩
  | own a x => obtain ⟨e1, r⟩ := h; exact ⟨e1, r.le e (eH a (List.mem_singleton.mpr rfl))⟩
  | deep a x gs => obtain ⟨e1, r, g⟩ := h; exact ⟨e1, r.le e (eH a List.mem_cons_self), fun q hq => (g q hq).le e (eH _ (List.mem_cons_of_mem _ (List.mem_map_of_mem hq)))⟩
theorem SlsR.le : ∀ {δ : List Sl} {σ : St}, LE G G' → (∀ a ∈ owned δ, H' a = H a) → SlsR K G H δ σ → SlsR K G' H' δ σ
  | [], σ, _, _, h => h
  | s :: δ, σ, eG, eH, h => by
    obtain ⟨ov, σr, e, h1, h2⟩ := h
    rw [owned_cons] at eH
    exact ⟨ov, σr, e, h1.le eG fun a ha => eH a (List.mem_append_left _ ha), SlsR.le eG (fun a ha => eH a (List.mem_append_right _ ha)) h2⟩
theorem RV.le {r : R} {v : V} {a : Addr} (e : LE G G') (hH : ∀ b, b ≠ a → H' b = H b) (hG : ∀ b, b ≠ a → G' b = G b) (ha : (G a).isSome = true) (h : RV K B G H δ r v) : RV K B G' H' δ r v := by
  have nb : ∀ b, G b = none → b ≠ a := fun b h3 z => by subst z; rw [h3] at ha; cases ha
  cases r with
  | d x => exact Rep.le e h
  | own b x =>
    obtain ⟨e1, h1, h2, h3, h4⟩ := h
    exact ⟨e1, h1.le e (hH b (nb b h3)), h2, (hG b (nb b h3)).trans h3, h4⟩
  | deep b x gs =>
    obtain ⟨e1, h1, h2, h3, h4⟩ := h
    have nn : ∀ c ∈ b :: gs.map Prod.fst, c ≠ a := fun c hc => nb c (h3 c hc).2.1
    exact ⟨e1, h1.le e (hH b (nn b List.mem_cons_self)), fun q hq => (h2 q hq).le e (hH _ (nn _ (List.mem_cons_of_mem _ (List.mem_map_of_mem hq)))), fun c hc => ⟨(h3 c hc).1, (hG c (nn c hc)).trans (h3 c hc).2.1, (h3 c hc).2.2⟩, h4⟩
  | bor i a => exact h
theorem le_upd {a : Addr} {u w d : HO} (hd : Dky d) (h : G a = some u) (hu : u = d ∨ ∃ o, u = .frz o d) (hw : w = d ∨ ∃ o, w = .frz o d) : LE G (upd G a w) := fun b o e => by
  by_cases q : b = a
  · subst q
    refine .inr ⟨d, hd, ?_, ?_⟩
    · rcases hu with hu | ⟨o', hu⟩
      · subst hu; exact .inl h
      · subst hu; exact .inr ⟨o', h⟩
    · rcases hw with hw | ⟨o', hw⟩
      · subst hw; exact .inl upd_same
      · subst hw; exact .inr ⟨o', upd_same⟩
  · exact .inl (by rw [upd_ne q]; exact e)
/-- a frozen dict is locked, or unlocked -/
theorem Frame.relock (F : Frame K B G H σ δ) {a : Addr} {u w d : HO} (hd : Dky d) (h : G a = some u) (hu : u = d ∨ ∃ o, u = .frz o d) (hw : w = d ∨ ∃ o, w = .frz o d) : Frame K B (upd G a w) (upd H a w) σ δ := by
  have hB : B a = none := by
    rcases F.dis a with q | q | ⟨xs, q⟩
    · exact q
    · rw [h] at q; cases q
    · rw [h] at q
      cases q
      rcases hu with z | ⟨o, z⟩
      · rcases hd with ⟨_, z'⟩ | ⟨_, z'⟩ <;> rw [z'] at z <;> cases z
      · cases z
  have hO : ∀ b ∈ owned δ, b ≠ a := fun b hb z => by
    subst z
    have q := (F.own b hb).2
    rw [h] at q
    cases q
  refine ⟨fun b o e => ?_, fun b o e => ?_, fun b => ?_, F.sl.le (le_upd hd h hu hw) fun b hb => upd_ne (hO b hb), fun b hb => ⟨(F.own b hb).1, by rw [upd_ne (hO b hb)]; exact (F.own b hb).2⟩, F.nd⟩
  · by_cases q : b = a
    · subst q; rw [hB] at e; cases e
    · rw [upd_ne q]; exact F.exB b o e
  · by_cases q : b = a
    · subst q; rw [upd_same] at e ⊢; exact e
    · rw [upd_ne q] at e ⊢; exact F.exG b o e
  · by_cases q : b = a
    · subst q; exact .inl hB
    · rw [upd_ne q]; exact F.dis b
end
end DL
namespace DL
open PySem PySem.Spec PyProof.Rows L2
open Evl (Ex)
/-- the statement, a dict locked meanwhile or no more to be locked -/
def tLk (t : TS) : TS := fun D σ H => tLock t D σ H ∨ t D σ H
def tLkE (t : TE) : TE := fun σ H Q => tLockE t σ H Q ∨ t σ H Q
theorem ps_lk {X : Cx} {st : Stmt} {t : TS} (h : PS X st t) : PS X st (tLk t) := by
  refine ⟨fun pins s σ H D I hw => ?_⟩
  rcases hw with hw | hw
  · exact (ps_lock h).run pins s σ H D I hw
  · exact h.run pins s σ H D I hw
theorem pe_lk {X : Cx} {e : Expr} {t : TE} (h : PE X e t) : PE X e (tLkE t) := by
  refine ⟨fun pins s σ H Q I hw => ?_⟩
  rcases hw with hw | hw
  · exact (pe_lock h).run pins s σ H Q I hw
  · exact h.run pins s σ H Q I hw
/-- where a dict is locked -/
abbrev cL (K : PySem.W.Frag) (a : Addr) (u : HO) : Cd := ⟨K, fun _ G => G a = some u, fun _ _ _ e h => e a u h⟩
def dItems (kds : List (Key × D)) : List D := kds.map fun q => D.tup [keyD q.1, q.2]
def dValues (kds : List (Key × D)) : List D := kds.map Prod.snd
def dKeys (kds : List (Key × D)) : List D := kds.map fun q => keyD q.1
theorem repK_ln {K : PySem.W.Frag} {G : Hp} : ∀ {ds : List (Key × D)} {vs : List (Key × V)}, RepK K G ds vs → vs.length = ds.length
  | [], vs, h => by unfold RepK at h; subst h; rfl
  | (k, d) :: ds, vs, h => by
    unfold RepK at h
    obtain ⟨v, vr, e1, _, h2⟩ := h
    subst e1
    simp [repK_ln h2]
theorem repK_getV {K : PySem.W.Frag} {G : Hp} : ∀ {ds : List (Key × D)} {vs : List (Key × V)} {i : Nat} {kv : Key × V}, RepK K G ds vs → vs[i]? = some kv → ∃ x, ds[i]? = some (kv.1, x) ∧ Rep K G x kv.2
  | [], vs, i, kv, h, e => by unfold RepK at h; subst h; simp at e
  | (k, d) :: ds, vs, 0, kv, h, e => by
    unfold RepK at h
    obtain ⟨v, vr, e1, h1, _⟩ := h
    subst e1
    have e2 : (k, v) = kv := by simpa using e
    subst e2
    exact ⟨d, rfl, h1⟩
  | (k, d) :: ds, vs, i + 1, kv, h, e => by
    unfold RepK at h
    obtain ⟨v, vr, e1, _, h2⟩ := h
    subst e1
    obtain ⟨w, h3, h4⟩ := repK_getV (i := i) h2 (by simpa using e)
    exact ⟨w, by simpa using h3, h4⟩
theorem keyD_rep {K : PySem.W.Frag} {G : Hp} (k : Key) : Rep K G (keyD k) (kV k) := by cases k <;> (unfold keyD Rep; rfl)
section
variable {K : PySem.W.Frag} {δ : List Sl} {i : Nat} {a : Addr} {o : Obj} {kds : List (Key × D)} {kvs : List (Key × V)} {p : Bool}
/-- the slot's dict, locked -/
theorem var_lk {B G H : Hp} {σ : St} (F : Frame K B G H σ δ) (hi : δ[i]? = some (.d (.dct kds))) : ∃ (a : Addr) (kvs : List (Key × V)), σ[i]? = some (some (.ref a)) ∧ Rd G a (.dK kvs) ∧ RepK K G kds kvs := by
  obtain ⟨ov, e1, v, e2, hr⟩ := F.get hi
  unfold Rep at hr
  obtain ⟨a, kvs, ev, h1, h2⟩ := hr
  subst e2 ev
  exact ⟨a, kvs, e1, h1, h2⟩
/-- an address's slot, its dict locked -/
structure VarL (K : PySem.W.Frag) (G : Hp) (σ : St) (i : Nat) (a : Addr) (o : Obj) (kvs : List (Key × V)) (kds : List (Key × D)) : Prop where
  s : σ[i]? = some (some (.ref a))
  g : G a = some (.frz o (.dK kvs))
  r : RepK K G kds kvs
abbrev cV (K : PySem.W.Frag) (a : Addr) (o : Obj) (kvs : List (Key × V)) (kds : List (Key × D)) : Cd := ⟨K, fun _ G => G a = some (.frz o (.dK kvs)) ∧ RepK K G kds kvs, fun _ _ _ e h => ⟨e a _ h.1, h.2.mono e⟩⟩
/-- WI at one state -/
def WIat (c : Cd) (p : Bool) (wi : TI) (δ : List Sl) (B G H : Hp) (σ : St) (ds : List D) : Prop :=
  ∀ (R : It → Hp → Prop), (∀ J G' H', Ex G G' → Frame c.K B G' H' σ δ → (p = true → Ex H H') → (∃ Gd Y, Walk J ds.length Gd Y ∧ (∀ H2, Ex G' H2 → Gd H2) ∧ Yl c.K G' ds Y) → R J H') → wi σ H R
theorem wi_itemsL {B G H : Hp} {σ : St} (F : Frame K B G H σ δ) (h : VarL K G σ i a o kvs kds) : WIat (c0 K) true (iItems (tVar i)) δ B G H σ (dItems kds) := by
  intro R k
  refine ⟨.ref a, h.s, a, o, kvs, rfl, F.exG a _ h.g, k _ G H (Ex.refl G) F (fun _ => Ex.refl H) ⟨_, _, by unfold dItems; rw [List.length_map, ← repK_ln h.r]; exact walk_items, fun H2 e => e a _ h.g, yl_pair fun j x y hj hx hy => ?_⟩⟩
  obtain ⟨kv, e1, e2⟩ := Option.map_eq_some_iff.mp hx
  rw [e1] at hy
  cases hy
  obtain ⟨d, hd, hr⟩ := repK_getV h.r e1
  subst e2
  refine ⟨keyD kv.1, d, ?_, keyD_rep _, hr⟩
  unfold dItems
  rw [List.getElem?_map, hd]
  rfl
theorem wi_valuesL {B G H : Hp} {σ : St} (F : Frame K B G H σ δ) (h : VarL K G σ i a o kvs kds) : WIat (c0 K) true (iVals (tVar i)) δ B G H σ (dValues kds) := by
  intro R k
  refine ⟨.ref a, h.s, a, o, kvs, rfl, F.exG a _ h.g, k _ G H (Ex.refl G) F (fun _ => Ex.refl H) ⟨_, _, by unfold dValues; rw [List.length_map, ← repK_ln h.r]; exact walk_values, fun H2 e => e a _ h.g, fun j H2 x H3 hj y => .inl ?_⟩⟩
  obtain ⟨e1, k', e2⟩ := y
  obtain ⟨d, hd, hr⟩ := repK_getV h.r e2
  exact ⟨e1, d, by unfold dValues; rw [List.getElem?_map, hd]; rfl, hr⟩
theorem wi_keysL {B G H : Hp} {σ : St} (F : Frame K B G H σ δ) (h : VarL K G σ i a o kvs kds) : WIat (c0 K) true (iKeys (tVar i)) δ B G H σ (dKeys kds) := by
  intro R k
  refine ⟨.ref a, h.s, a, o, rfl, .inl ⟨kvs, F.exG a _ h.g, k _ G H (Ex.refl G) F (fun _ => Ex.refl H) ⟨_, _, by unfold dKeys; rw [List.length_map, ← repK_ln h.r]; exact walk_keys, fun H2 e => e a _ h.g, fun j H2 x H3 hj y => .inl ?_⟩⟩⟩
  obtain ⟨e1, k', v', e2, e3⟩ := y
  obtain ⟨d, hd, hr⟩ := repK_getV h.r e2
  subst e3
  exact ⟨e1, keyD k', by unfold dKeys; rw [List.getElem?_map, hd]; rfl, keyD_rep _⟩
end
end DL

namespace DL
open PySem PySem.Spec PyProof.Rows L2
open Evl (Ex)
/-- a walk at states where the i-th name stands for a -/
def wiAt (i : Nat) (a : Addr) (wi : TI) : TI := fun σ H R => σ[i]? = some (some (.ref a)) → wi σ H R
section
variable {K : PySem.W.Frag} {δ : List Sl} {i : Nat} {kds : List (Key × D)} {wi : TI} {g : TG} {t : TS} {tt : TT} {te : TE} {ds : List D} {E : En} {vs : List Nat}
abbrev WalkL (K : PySem.W.Frag) (wi : TI) (i : Nat) (δ : List Sl) (kds : List (Key × D)) (ds : List D) : Prop := ∀ (a : Addr) (o : Obj) (kvs : List (Key × V)) (B G H : Hp) (σ : St), Frame K B G H σ δ → VarL K G σ i a o kvs kds → WIat (c0 K) true wi δ B G H σ ds
theorem wi_at {p : Bool} {a : Addr} {o : Obj} {kvs : List (Key × V)} {Φ : List D → List Sl → Prop} (h : WalkL K wi i δ kds ds) (q : Φ ds δ) : WI (cV K a o kvs kds) p (wiAt i a wi) δ Φ := fun B G H σ R F x k hs =>
  h a o kvs B G H σ F ⟨hs, x.1, x.2⟩ R fun J G' H' e F' p' W => k ds δ J G' H' q e F' (fun _ => ⟨rfl, p' rfl⟩) W
theorem ws_forLk {c c' : Cd} (hK : c'.K = c.K) (hx : ∀ B G, c'.xr B G) (hw : WalkL c.K wi i δ kds ds) (hi : δ[i]? = some (.d (.dct kds))) (h : ∃ I : Nat → List Sl → Prop, I 0 δ ∧
    (∀ j d δ2, ds[j]? = some d → I j δ2 → WG c' g (.d d) δ2 fun δ3 => WS c' t δ3 { E with nx := I (j + 1), ct := I (j + 1), bk := E.nx }) ∧ ∀ δ2, I ds.length δ2 → E.nx δ2) : WS c (tLk (tFor wi g t)) δ E := by
  obtain ⟨K, xr, mo⟩ := c
  obtain ⟨K', xr', mo'⟩ := c'
  cases hK
  obtain ⟨I, i0, it, iend⟩ := h
  have core : ∀ (a : Addr) (o : Obj) (kvs : List (Key × V)) (B G H : Hp) (σ : St) (D : Ends), Frame K B G H σ δ → VarL K G σ i a o kvs kds → EnR (c0 K) B G E D → tFor wi g t D σ H := by
    intro a o kvs B G H σ D F vl e
    have z : WS (cV K a o kvs kds) (tFor (wiAt i a wi) g t) δ E := ws_for (p := true) (wi_at hw ⟨I, i0, fun j d δ2 hd hI => ?_, iend⟩)
    · exact z B G H σ D F ⟨vl.g, vl.r⟩ ⟨e.nx, e.rt, e.bk, e.ct⟩ vl.s
    · intro B G H σ v Q F _ rv k
      refine it j d δ2 hd hI B G H σ v Q F (hx B G) rv fun δ' σ' G' H' w e' F' => k δ' σ' G' H' ?_ e' F'
      intro B2 G2 H2 σ2 D2 F2 _ e2
      exact w B2 G2 H2 σ2 D2 F2 (hx B2 G2) ⟨e2.nx, e2.rt, e2.bk, e2.ct⟩
  intro B G H σ D F x e
  obtain ⟨a, kvs, hs, hr, hk⟩ := var_lk F hi
  rcases hr with hg | ⟨o, hg⟩
  · refine .inl ⟨a, .dK kvs, F.exG a _ hg, trivial, fun od => ?_⟩
    have F1 := F.relock (.inl ⟨_, rfl⟩) hg (.inl rfl) (w := .frz od (.dK kvs)) (.inr ⟨od, rfl⟩)
    have le1 : LE G (upd G a (.frz od (.dK kvs))) := le_upd (.inl ⟨_, rfl⟩) hg (.inl rfl) (.inr ⟨od, rfl⟩)
    have gb : ∀ {G' : Hp}, Ex (upd G a (.frz od (.dK kvs))) G' → G' a = some (.frz od (.dK kvs)) := fun e => e a _ upd_same
    have back : ∀ {G' : Hp}, Ex (upd G a (.frz od (.dK kvs))) G' → Ex G (upd G' a (.dK kvs)) := fun e b u h => by
      by_cases q : b = a
      · subst q; rw [upd_same, ← h, hg]
      · rw [upd_ne q]; exact e b u (by rw [upd_ne q]; exact h)
    have fb : ∀ {G' H' : Hp} {σ' : St} {δ' : List Sl}, Ex (upd G a (.frz od (.dK kvs))) G' → Frame K B G' H' σ' δ' → Frame K B (upd G' a (.dK kvs)) (upd H' a (.dK kvs)) σ' δ' := fun e F' => F'.relock (.inl ⟨_, rfl⟩) (gb e) (.inr ⟨od, rfl⟩) (.inl rfl)
    refine core a od kvs B _ _ σ _ F1 ⟨hs, upd_same, hk.le le1⟩ ⟨fun δ' σ' G' H' w e1 F' => ⟨F'.exG a _ (gb e1), e.nx δ' σ' _ _ w (back e1) (fb e1 F')⟩, fun r δ' v σ' G' H' w e1 F' rv => ⟨F'.exG a _ (gb e1), e.rt r δ' v σ' _ _ w (back e1) (fb e1 F') ?_⟩, fun δ' σ' G' H' w e1 F' => ⟨F'.exG a _ (gb e1), e.bk δ' σ' _ _ w (back e1) (fb e1 F')⟩, fun δ' σ' G' H' w e1 F' => ⟨F'.exG a _ (gb e1), e.ct δ' σ' _ _ w (back e1) (fb e1 F')⟩⟩
    exact rv.le (le_upd (.inl ⟨_, rfl⟩) (gb e1) (.inr ⟨od, rfl⟩) (.inl rfl)) (fun b q => upd_ne q) (fun b q => upd_ne q) (by rw [gb e1]; rfl)
  · exact .inr (core a o kvs B G H σ D F ⟨hs, hg, hk⟩ ⟨e.nx, e.rt, e.bk, e.ct⟩)
/-- a pure comprehension over a dict -/
theorem we_lcLk {c : Cd} {p : Bool} {Φ : R → List Sl → Prop} (hw : WalkL c.K wi i δ kds ds) (hi : δ[i]? = some (.d (.dct kds))) (h : nonOwn δ vs ∧ ds.length ≤ 100000 ∧ ∃ kf : DL.D → Option DL.D,
    (∀ (j : Nat) (d : DL.D), ds[j]? = some d → WGc g c.K d (wipeS δ vs) vs fun ε1 => WT (c0 c.K) true tt ε1 fun b ε2 => (b = true → WE (c0 c.K) true te ε2 fun r _ => ∃ x, frz r = .d x ∧ kf d = some x) ∧ (b = false → kf d = none)) ∧
    ∀ a, Φ (.own a (.lst (ds.filterMap kf))) δ) : WE c p (tLkE (tLc wi g tt te vs)) δ Φ := by
  obtain ⟨K, xr, mo⟩ := c
  have core : ∀ (a : Addr) (o : Obj) (kvs : List (Key × V)) (B G H : Hp) (σ : St) (Q : VK), Frame K B G H σ δ → VarL K G σ i a o kvs kds → (∀ r δ' v G' H', (Φ r δ' ∧ δ' = δ) → Ex G G' → Frame K B G' H' σ δ' → RV K B G' H' δ' r v → (true = true → δ' = δ ∧ Ex H H') → Q v H') → tLc wi g tt te vs σ H Q := by
    intro a o kvs B G H σ Q F vl k
    obtain ⟨h1, h2, kf, h3, h4⟩ := h
    have z : WE (cV K a o kvs kds) true (tLc (wiAt i a wi) g tt te vs) δ (fun r δ' => Φ r δ' ∧ δ' = δ) := we_lcP (wi_at hw ⟨h1, h2, kf, h3, fun a => ⟨h4 a, rfl⟩⟩)
    exact z B G H σ Q F ⟨vl.g, vl.r⟩ k vl.s
  intro B G H σ Q F x k
  obtain ⟨a, kvs, hs, hr, hk⟩ := var_lk F hi
  rcases hr with hg | ⟨o, hg⟩
  · refine .inl ⟨a, .dK kvs, F.exG a _ hg, trivial, fun od => ?_⟩
    have F1 := F.relock (.inl ⟨_, rfl⟩) hg (.inl rfl) (w := .frz od (.dK kvs)) (.inr ⟨od, rfl⟩)
    have le1 : LE G (upd G a (.frz od (.dK kvs))) := le_upd (.inl ⟨_, rfl⟩) hg (.inl rfl) (.inr ⟨od, rfl⟩)
    refine core a od kvs B _ _ σ _ F1 ⟨hs, upd_same, hk.le le1⟩ fun r δ' v G' H' w e1 F' rv p1 => ?_
    have ga : G' a = some (.frz od (.dK kvs)) := e1 a _ upd_same
    refine ⟨F'.exG a _ ga, k r δ' v _ _ w.1 (fun b u h => ?_) (F'.relock (.inl ⟨_, rfl⟩) ga (.inr ⟨od, rfl⟩) (.inl rfl)) (rv.le (le_upd (.inl ⟨_, rfl⟩) ga (.inr ⟨od, rfl⟩) (.inl rfl)) (fun b q => upd_ne q) (fun b q => upd_ne q) (by rw [ga]; rfl)) fun _ => ⟨w.2, fun b u h => ?_⟩⟩
    · by_cases q : b = a
      · subst q; rw [upd_same, ← h, hg]
      · rw [upd_ne q]; exact e1 b u (by rw [upd_ne q]; exact h)
    · by_cases q : b = a
      · subst q; rw [upd_same, ← h, F.exG b _ hg]
      · rw [upd_ne q]; exact (p1 rfl).2 b u (by rw [upd_ne q]; exact h)
  · exact .inr (core a o kvs B G H σ Q F ⟨hs, hg, hk⟩ fun r δ' v G' H' w e1 F' rv p1 => k r δ' v G' H' w.1 e1 F' rv fun _ => p1 rfl)
/-! ### list(d.values()) -/
def tListVals (td : TE) : TE := fun σ H Q => td σ H fun x H1 => ∃ a kvs, x = V.ref a ∧ Rd H1 a (.dK kvs) ∧ ∀ l, H1 l = none → Q (.ref l) (upd H1 l (.lst (kvs.map Prod.snd)))
theorem vals_at : ∀ {kvs : List (Key × V)} {vs : List (Key × Value)} {us : List Value}, KV kvs vs → us.length = vs.length → (∀ (j : Nat) (u : Value), us[j]? = some u → ∃ k, vs[j]? = some (k, u)) → Vals (kvs.map Prod.snd) us
  | [], vs, us, r, hl, _ => by
    cases r
    cases us with
    | nil => exact .nil
    | cons u us => simp at hl
  | kv :: kvs, _, us, r, hl, hu => by
    cases r with
    | @cons _ q _ vs' r1 r2 =>
      cases us with
      | nil => simp at hl
      | cons u us =>
        obtain ⟨k, e⟩ := hu 0 u rfl
        have e' : q = (k, u) := by simpa using e
        subst e'
        exact .cons r1.2 (vals_at r2 (by simpa using hl) fun j u h => by simpa using hu (j + 1) u (by simpa using h))
variable {X : Cx} {e : Expr} {p apos cpos pos : Pos}
theorem pe_listVals (hc : X.calm = true) (he : PE X e te) (hg : Gl X "list") (hm : X.mg "list" = none) (hv : bootBuiltins "list" = some (.type "list")) (hbase : attributeBase e "values" X.env (eval e X.env) = eval e X.env := by rfl) (hline : (apos.endLine == cpos.line) = true := by rfl)
    (hs : starEach [.Call (.Attribute e "values" apos) [] [] cpos] X.env = (false, eval (.Call (.Attribute e "values" apos) [] [] cpos) X.env) :: starEach [] X.env := by rfl) :
    PE X (.Call (.Name "list" p) [.Call (.Attribute e "values" apos) [] [] cpos] [] pos) (tListVals te) := by
  refine ⟨fun pins s σ H Q I hq => ?_⟩
  refine wpAny_Call_Name_kw (ld_blt I hg hm hv ?_)
  refine PyProof.Rows.callWith_type1 ?_ hs rfl
  rw [hs]
  show wpAny _ _ (spliced ((false, eval (.Call (.Attribute e "values" apos) [] [] cpos) X.env) :: backTo pos (starEach [] X.env))) _ _ s
  refine Calls.spliced_cons ?_
  refine wpAny_Call_method (T := "dict") (id := "dict.values") hbase rfl hline F.plainAttrs_dict F.slot_dict_values F.type_dict_values (thn (he.run pins s σ H _ I hq) fun u s1 ⟨x, H1, I1, rx, d, kvs, ex, hd, q⟩ => ?_)
  subst ex
  obtain rfl : u = Value.ref d := rx
  obtain ⟨hz, hs0, vs, kv, hdo⟩ := dk_rd I1.hok hd
  obtain ⟨ep, hat⟩ := hdo.dictAt
  have lk : kvs.length = vs.length := Paired.length kv
  have I2 : Inv X pins σ H1 { s1 with heap := s1.heap.push { cls := .type "dict_values", data := .fields #[.ref d] } } := I1.kept (t' := s1.toks) fun b ob q => Heap.get?_push_of_some _ q
  refine ⟨hdo.typeIs, hdo.mapOf.noDict, ?_⟩
  show wpAny _ _ (callWith cpos (.builtin "dict.values") [.ref d] [] []) _ X.xe s1
  refine method_meetsIn F.slot_dict_values F.entry_dict_values rfl (PySem.evalArgs_none ⟨rfl, hdo.typeIs, F.args_dict_values_1 _, _, meets_dict_values (mixKind X.prog X.w) d hs0, ⟨vs, hdo⟩, ?_⟩)
  refine Calls.spliced_nil ?_
  refine PySem.W.kdl_call (PySem.W.kdl_values (knd := mixKind X.prog X.w) (kvs := vs) (ep := ep) (d := d) (r := s1.heap.objs.size)) (I1.ok.hd hc) ⟨⟨_, Heap.get?_push_size _ rfl, rfl, rfl⟩, hat.push _⟩ (by omega) fun h' tk acc c' hk hD hacc => ?_
  have hvl : Vals (kvs.map Prod.snd) acc.toList := vals_at kv (by rw [Array.length_toList]; exact hacc.1) fun j v e => hacc.2 j v (by rw [← Array.getElem?_toList]; exact e)
  exact ⟨.ref _, upd H1 _ (.lst (kvs.map Prod.snd)), I2.laid (t' := tk) hk (Nat.le_refl _)
    (show ObjOk X.prog X.w _ _ _ (.lst (kvs.map Prod.snd)) from ⟨by rw [List.length_map]; exact hz, acc.toList, c', hvl, by rw [Array.toArray_toList]; exact hD⟩), rfl, q _ (I2.hok.fresh (Nat.le_refl _))⟩
theorem vals_reps {G : Hp} : ∀ {ds : List (Key × D)} {vs : List (Key × V)}, RepK K G ds vs → Reps K G (ds.map Prod.snd) (vs.map Prod.snd)
  | [], vs, h => by unfold RepK at h; subst h; exact reps_nil
  | (k, d) :: ds, vs, h => by
    unfold RepK at h
    obtain ⟨v, vr, e, h1, h2⟩ := h
    subst e
    exact reps_cons h1 (vals_reps h2)
theorem we_listVals {c : Cd} {p : Bool} {Φ : R → List Sl → Prop} (h : WE c p te δ fun r δ1 => ∃ kds, view δ1 (frz r) = some (.dct kds) ∧ ∀ a, Φ (.own a (.lst (dValues kds))) δ1) : WE c p (tListVals te) δ Φ := by
  intro B G H σ Q F x k
  refine h B G H σ _ F x fun r δ1 v G1 H1 w e1 F1 rv p1 => ?_
  obtain ⟨G1', e1', F1', rw1⟩ := rv.weak F1
  obtain ⟨kds, hv, w⟩ := w
  obtain ⟨a, kvs, ev, hr, hk⟩ := view_dct F1' rw1 hv
  exact ⟨a, kvs, ev, hr, fun l hl => k _ δ1 _ G1' _ (w l) (e1.trans e1') (F1'.ex (Ex.new hl)) (rv_newL F1' hl (vals_reps hk)) fun hp => ⟨(p1 hp).1, (p1 hp).2.trans (Ex.new hl)⟩⟩
/-! ### max of a list -/
def intsD : List D → Option (List Int)
  | [] => some []
  | .int i :: r => (intsD r).map (i :: ·)
  | _ :: _ => none
theorem ints_reps {G : Hp} : ∀ {ds : List D} {vs : List V} {ns : List Int}, intsD ds = some ns → Reps K G ds vs → vs = ns.map V.int
  | [], vs, ns, e, h => by cases e; unfold Reps at h; exact h
  | d :: ds, vs, ns, e, h => by
    cases d with
    | int i =>
      unfold intsD at e
      cases q : intsD ds with
      | none => rw [q] at e; cases e
      | some ms =>
        rw [q] at e
        cases e
        unfold Reps at h
        obtain ⟨v, vr, e1, h1, h2⟩ := h
        unfold Rep at h1
        subst e1 h1
        rw [ints_reps q h2]
        rfl
    | _ => cases e
theorem cad_maxL {c : Cd} : CaD c (rMax c.K) fun ds k => ∃ x, ds = [x] ∧ ∃ xs ns, x = .lst xs ∧ intsD xs = some ns ∧ 0 < ns.length ∧ ∀ m, m ∈ ns → (∀ y, y ∈ ns → y ≤ m) → k (.d (.int m)) := cad_one fun B G H σ δ r1 v x Ψ Q F h1 e1 hf k => by
  obtain ⟨xs, ns, ex, hn, hl, q⟩ := hf
  subst ex
  obtain ⟨a, vs, ev, ha, hr⟩ := view_lst F h1 e1
  subst ev
  have e2 := ints_reps hn hr
  subst e2
  exact ⟨a, ns, rfl, sql ha, hl, fun m h3 h4 => k _ _ G H (q m h3 h4) (Ex.refl G) (Ex.refl H) F (show Rep c.K G (.int m) (.int m) from rep_int)⟩
end
end DL

/-! DL26: more closers. -/
namespace DL
open PySem PySem.Spec PyProof.Rows L2
section
variable {x y : D} {b : Bool} {n T : String}
theorem ex_isiB {P : Bool → Prop} (h2 : isiB x y = some b) (q : P b) : ∃ x' y', [x, y] = [x', y'] ∧ ∃ b, isiB x' y' = some b ∧ P b := ⟨x, y, rfl, b, h2, q⟩
theorem isiB_ty (h : tyD x = some T) (h2 : kitB T n = some b) : isiB x (.ty n) = some b := by
  show ((tyD x).bind fun a => kitB a n) = some b
  rw [h]
  exact h2
theorem isiB_of {n : String} (h : isiD x (.ty n) = some b) : isiB x (.ty n) = some b := h
end
theorem isi2_lst {xs : List D} : isiB (.lst xs) (.tup [.ty "list", .ty "tuple"]) = some true := by
  show kitAnyB "list" ["list", "tuple"] = some true
  decide +kernel
theorem isi2_tup {xs : List D} : isiB (.tup xs) (.tup [.ty "list", .ty "tuple"]) = some true := by
  show kitAnyB "tuple" ["list", "tuple"] = some true
  decide +kernel
theorem isi_lst {xs : List D} : isiB (.lst xs) (.ty "list") = some true := isiB_ty rfl (by decide +kernel)
theorem isi_tup {xs : List D} : isiB (.tup xs) (.ty "tuple") = some true := isiB_ty rfl (by decide +kernel)
theorem isi_dct {xs : List (Key × D)} : isiB (.dct xs) (.ty "dict") = some true := isiB_ty rfl (by decide +kernel)
theorem isi_st {z : Str} : isiB (.str z) (.ty "str") = some true := isiB_ty rfl (by decide +kernel)
section
variable {k : R → Prop} {kds : List (Key × D)} {z : Str} {v : D}
theorem dInB_sk (h : k (.d (.bl (getD kds (.inr z)).isSome))) : dInB id (.str z) (.dct kds) k := dInB_kI rfl h
theorem dIxB_sk (h1 : getD kds (.inr z) = some v) (h : k (.d v)) : dIxB (.dct kds) (.str z) k := dIxB_k rfl h1 h
end
section
variable {K : PySem.W.Frag} {ε : List Sl} {vs : List Nat} {g1 g2 g3 : TG} {x y z : D} {Φ : List Sl → Prop}
theorem wgc_s2 (h : WGc g1 K x ε vs fun ε1 => WGc g2 K y ε1 vs Φ) : WGc (gSeq K 2 (gCons g1 (gCons g2 gNil))) K (.tup [x, y]) ε vs Φ := fun B G H σ v Q F r k =>
  .inl (wgc_tup rfl (wgcs_cons (fun B G H σ v Q F r k => h B G H σ v Q F r fun ε1 σ1 w => k ε1 σ1 (wgcs_cons (fun B G H σ v Q F r k => w B G H σ v Q F r fun ε2 σ2 w2 => k ε2 σ2 (wgcs_nil w2))))) B G H σ v Q F r k)
theorem wgc_s3 (h : WGc g1 K x ε vs fun ε1 => WGc g2 K y ε1 vs fun ε2 => WGc g3 K z ε2 vs Φ) : WGc (gSeq K 3 (gCons g1 (gCons g2 (gCons g3 gNil)))) K (.tup [x, y, z]) ε vs Φ := fun B G H σ v Q F r k =>
  .inl (wgc_tup rfl (wgcs_cons (fun B G H σ v Q F r k => h B G H σ v Q F r fun ε1 σ1 w => k ε1 σ1 (wgcs_cons (fun B G H σ v Q F r k => w B G H σ v Q F r fun ε2 σ2 w2 => k ε2 σ2 (wgcs_cons (fun B G H σ v Q F r k => w2 B G H σ v Q F r fun ε3 σ3 w3 => k ε3 σ3 (wgcs_nil w3))))))) B G H σ v Q F r k)
end
section
variable {K : PySem.W.Frag} {δ : List Sl} {r : R} {C : Addr} {fs : List (Str × D)} {x : D} {f : Str} {P : D → Prop}
theorem ex_fld (h1 : view δ r = some (.obj C fs)) (hc : Cls K C) (hn : NoAttr K C f) (hl : fs.lookup f = some x) (q : P x) : ∃ C fs x, view δ r = some (.obj C fs) ∧ Cls K C ∧ NoAttr K C f ∧ fs.lookup f = some x ∧ P x := ⟨C, fs, x, h1, hc, hn, hl, q⟩
end
end DL

/-! DL27: objects that are reached through others: a slot's own and what stands behind it. -/
namespace DL
open PySem PySem.Spec PyProof.Rows L2
open Evl (Ex)
section
variable {K : PySem.W.Frag} {B G G' H H' : Hp} {σ : St} {δ : List Sl}
/-- a slot told otherwise, one object of its own changed -/
theorem frame_any {i : Nat} {b : Addr} {s t : Sl} (F : Frame K B G H σ δ) (e : δ[i]? = some s) (hb : b ∈ ads s) (hH : ∀ c, c ≠ b → H' c = H c)
    (ht : ∀ ov, SlR K G H s ov → SlR K G H' t ov) (hn : (ads t).Nodup) (hx : ∀ c ∈ ads t, c ∈ ads s ∨ (B c = none ∧ G c = none ∧ c ∉ owned δ)) : Frame K B G H' σ (δ.set i t) := by
  have hbB := F.own b (owned_getA e hb)
  have sub0 := owned_set_no (δ := δ) (i := i) (s := .no) rfl
  have hno : ∀ c ∈ ads s, c ∉ owned (δ.set i .no) := fun c hc => not_owned_set F.nd e hc rfl
  have sl0 : SlsR K G H' (δ.set i .no) σ := (F.sl.setS (s := .no) (ov := none) i (fun _ _ => trivial)).ex (Ex.refl G) fun c hc => hH c fun z => hno b hb (by rw [← z]; exact hc)
  have e0 : (δ.set i .no).set i t = δ.set i t := List.set_set ..
  refine ⟨fun c o h => ?_, fun c o h => ?_, F.dis, ?_, fun c hc => ?_, ?_⟩
  · rw [hH c (fun z => by rw [z, hbB.1] at h; cases h)]; exact F.exB c o h
  · rw [hH c (fun z => by rw [z, hbB.2] at h; cases h)]; exact F.exG c o h
  · rw [← e0]
    refine sl0.setS (ov := none) i fun ov eo => ?_
    obtain ⟨ov', e1, h2⟩ := F.get e
    rw [eo] at e1
    cases e1
    exact ht ov h2
  · rcases owned_set_in hc with q | q
    · rcases hx c q with z | z
      · exact F.own c (owned_getA e z)
      · exact ⟨z.1, z.2.1⟩
    · exact F.own c q
  · rw [← e0]
    refine nodup_set (F.nd.sublist sub0) hn fun c hc => ?_
    rcases hx c hc with z | z
    · exact hno c z
    · exact fun q => z.2.2 (sub0.subset q)
/-- behind an own object others may stand -/
theorem frame_deepen {i : Nat} {a : Addr} {x : D} (F : Frame K B G H σ δ) (e : δ[i]? = some (.own a x)) : Frame K B G H σ (δ.set i (.deep a x [])) :=
  frame_any F e (List.mem_singleton.mpr rfl) (fun _ _ => rfl) (fun ov h => ⟨h.1, h.2, fun q hq => by cases hq⟩) (by simp [ads]) fun c hc => .inl hc
def setG (gs : List (Addr × D)) (b : Addr) (y : D) : List (Addr × D) := gs.map fun q => if q.1 = b then (b, y) else q
theorem setG_fst (gs : List (Addr × D)) (b : Addr) (y : D) : (setG gs b y).map Prod.fst = gs.map Prod.fst := by
  unfold setG
  rw [List.map_map]
  apply List.map_congr_left
  intro q _
  show (if q.1 = b then (b, y) else q).1 = q.1
  by_cases h : q.1 = b
  · rw [if_pos h]; exact h.symm
  · rw [if_neg h]
/-- the slots, an object's content told otherwise -/
def upV (δ : List Sl) (i : Nat) (a : Addr) (y : D) : List Sl := match δ[i]? with
  | some (.own b _) => δ.set i (.own b y)
  | some (.deep b x gs) => if a = b then δ.set i (.deep b y gs) else δ.set i (.deep b x (setG gs a y))
  | _ => δ
theorem upV_own {i : Nat} {a b : Addr} {x y : D} (h : δ[i]? = some (.own b x)) : upV δ i a y = δ.set i (.own b y) := by unfold upV; rw [h]
theorem upV_root {i : Nat} {a : Addr} {x y : D} {gs : List (Addr × D)} (h : δ[i]? = some (.deep a x gs)) : upV δ i a y = δ.set i (.deep a y gs) := by unfold upV; rw [h]; exact if_pos rfl
theorem upV_in {i : Nat} {a b : Addr} {x y : D} {gs : List (Addr × D)} (h : δ[i]? = some (.deep b x gs)) (n : a ≠ b) : upV δ i a y = δ.set i (.deep b x (setG gs a y)) := by unfold upV; rw [h]; exact if_neg n
/-- what stands at the i-th slot's address a -/
def At (δ : List Sl) (i : Nat) (a : Addr) (x : D) : Prop := view δ (.bor i a) = some x
theorem at_own {i : Nat} {a : Addr} {x : D} (h : δ[i]? = some (.own a x)) : At δ i a x := view_bor h
theorem at_deep {i : Nat} {a : Addr} {x : D} {gs : List (Addr × D)} (h : δ[i]? = some (.deep a x gs)) : At δ i a x := view_deep h
theorem at_in {i : Nat} {a b : Addr} {x y : D} {gs : List (Addr × D)} (h : δ[i]? = some (.deep a x gs)) (n : b ≠ a) (hl : gs.lookup b = some y) : At δ i b y := by
  unfold At view
  simp only [h]
  rw [if_neg n]
  exact hl
theorem frame_mutV {i : Nat} {a : Addr} {x y : D} {o : HO} (F : Frame K B G H σ δ) (e : At δ i a x) (h : OwnR K G (upd H a o) a y) : Frame K B G (upd H a o) σ (upV δ i a y) := by
  have hH : ∀ c, c ≠ a → (upd H a o) c = H c := fun c n => upd_ne n
  unfold At view at e
  simp only at e
  split at e
  · rename_i b z hz
    split at e
    · rename_i q
      subst q
      cases e
      rw [upV_own hz]
      exact frame_any F hz (List.mem_singleton.mpr rfl) hH (fun ov q => ⟨q.1, h⟩) (by simp [ads]) fun c hc => .inl hc
    · cases e
  · rename_i b z gs hz
    have nd := F.nd
    have ndS : (ads (.deep b z gs)).Nodup := by
      obtain ⟨l1, l2, e⟩ := List.append_of_mem (List.mem_of_getElem? hz)
      rw [e, owned_append, owned_cons] at nd
      exact (List.nodup_append.mp (List.nodup_append.mp nd).2.1).1
    have ndC := List.nodup_cons.mp ndS
    split at e
    · rename_i q
      subst q
      cases e
      rw [upV_root hz]
      refine frame_any F hz List.mem_cons_self hH (fun ov q => ⟨q.1, h, fun w hw => (q.2.2 w hw).mono (Ex.refl G) (upd_ne fun e => ndC.1 ?_)⟩) ndS fun c hc => .inl hc
      rw [← e]
      exact List.mem_map_of_mem hw
    · rename_i n
      rw [upV_in hz n]
      have ha : a ∈ gs.map Prod.fst := by
        clear h hz nd ndS ndC
        induction gs with
        | nil => simp at e
        | cons q gs ih =>
          obtain ⟨c, w⟩ := q
          rw [List.lookup_cons] at e
          by_cases hc : a = c
          · subst hc; exact List.mem_cons_self
          · have hc' : (a == c) = false := by simp [hc]
            rw [hc'] at e
            exact List.mem_cons_of_mem _ (ih e)
      have ea : ads (.deep b z (setG gs a y)) = ads (.deep b z gs) := by show b :: (setG gs a y).map Prod.fst = _; rw [setG_fst]; rfl
      refine frame_any F hz (List.mem_cons_of_mem _ ha) hH (fun ov q => ⟨q.1, q.2.1.mono (Ex.refl G) (upd_ne fun e => n e.symm), fun w hw => ?_⟩) (by rw [ea]; exact ndS) fun c hc => .inl (by rw [ea] at hc; exact hc)
      unfold setG at hw
      obtain ⟨w', hw', ew⟩ := List.mem_map.mp hw
      by_cases hc : w'.1 = a
      · rw [if_pos hc] at ew; rw [← ew]; exact h
      · rw [if_neg hc] at ew; rw [← ew]; exact (q.2.2 w' hw').mono (Ex.refl G) (upd_ne hc)
  · cases e
end
/-! ### what a slot with objects behind it tells as data -/
def All2 {α β : Type} (R : α → β → Prop) : List α → List β → Prop
  | [], [] => True
  | x :: xs, y :: ys => R x y ∧ All2 R xs ys
  | _, _ => False
def ResC (R : D → D → Prop) : D → D → Prop
  | .lst ds, .lst zs => All2 R ds zs
  | .dct ds, .dct zs => All2 (fun p q => p.1 = q.1 ∧ R p.2 q.2) ds zs
  | .dcT ds, .dcT zs => All2 (fun p q => p.1 = q.1 ∧ R p.2 q.2) ds zs
  | .obj C fs, .obj C' zs => C = C' ∧ All2 (fun p q => p.1 = q.1 ∧ R p.2 q.2) fs zs
  | _, _ => False
def Res (gs : List (Addr × D)) : Nat → D → D → Prop
  | 0, d, z => d = z
  | n + 1, d, z => d = z ∨ ∃ b y, d = .ptr b ∧ gs.lookup b = some y ∧ ResC (Res gs n) y z
theorem res_self (gs : List (Addr × D)) : ∀ (n : Nat) (d : D), Res gs n d d
  | 0, d => rfl
  | n + 1, d => .inl rfl
theorem resC_rep {K : PySem.W.Frag} {G G1 H : Hp} {R : D → D → Prop} (hR : ∀ d z v, R d z → Rep K G d v → Rep K G1 z v) {a : Addr} {y z : D} (h : ResC R y z) (ho : OwnR K G H a y) (hG : G1 a = H a) : Rep K G1 z (.ref a) := by
  have l2 : ∀ {ds zs : List D} {vs : List V}, All2 R ds zs → Reps K G ds vs → Reps K G1 zs vs := by
    intro ds
    induction ds with
    | nil => intro zs vs h h'; cases zs with
      | nil => unfold Reps at h' ⊢; exact h'
      | cons _ _ => exact h.elim
    | cons d ds ih =>
      intro zs vs h h'
      cases zs with
      | nil => exact h.elim
      | cons z zs =>
        unfold Reps at h'
        obtain ⟨v, vr, e, h1, h2⟩ := h'
        subst e
        exact reps_cons (hR d z v h.1 h1) (ih h.2 h2)
  cases y with
  | lst ds =>
    cases z <;> first | exact h.elim | skip
    rename_i zs
    obtain ⟨xs, h1, h2⟩ := ho
    unfold Rep
    exact ⟨a, xs, rfl, hG.trans h1, l2 h h2⟩
  | dct ds =>
    cases z <;> first | exact h.elim | skip
    rename_i zs
    obtain ⟨xs, h1, h2⟩ := ho
    unfold Rep
    refine ⟨a, xs, rfl, Rd.of (hG.trans h1), ?_⟩
    clear h1
    have h' : All2 (fun p q => p.1 = q.1 ∧ R p.2 q.2) ds zs := h
    clear h
    induction ds generalizing zs xs with
    | nil => cases zs with
      | nil => unfold RepK at h2 ⊢; exact h2
      | cons _ _ => exact h'.elim
    | cons d ds ih =>
      cases zs with
      | nil => exact h'.elim
      | cons z zs =>
        obtain ⟨k, d⟩ := d
        obtain ⟨k', z⟩ := z
        obtain ⟨⟨ek, hr⟩, h'⟩ := h'
        unfold RepK at h2 ⊢
        obtain ⟨v, vr, e, h3, h4⟩ := h2
        exact ⟨v, vr, by rw [e]; show (k, v) :: vr = (k', v) :: vr; rw [show k = k' from ek], hR d z v hr h3, ih zs vr h4 h'⟩
  | dcT ds =>
    cases z <;> first | exact h.elim | skip
    rename_i zs
    obtain ⟨xs, h1, h2⟩ := ho
    unfold Rep
    refine ⟨a, xs, rfl, Rd.of (hG.trans h1), ?_⟩
    clear h1
    have h' : All2 (fun p q => p.1 = q.1 ∧ R p.2 q.2) ds zs := h
    clear h
    induction ds generalizing zs xs with
    | nil => cases zs with
      | nil => unfold RepT at h2 ⊢; exact h2
      | cons _ _ => exact h'.elim
    | cons d ds ih =>
      cases zs with
      | nil => exact h'.elim
      | cons z zs =>
        obtain ⟨k, d⟩ := d
        obtain ⟨k', z⟩ := z
        obtain ⟨⟨ek, hr⟩, h'⟩ := h'
        unfold RepT at h2 ⊢
        obtain ⟨v, vr, e, h3, h4⟩ := h2
        exact ⟨v, vr, by rw [e]; show (k, v) :: vr = (k', v) :: vr; rw [show k = k' from ek], hR d z v hr h3, ih zs vr h4 h'⟩
  | obj C ds =>
    cases z <;> first | exact h.elim | skip
    rename_i C' zs
    obtain ⟨dx, xs, h1, h2⟩ := ho
    obtain ⟨ec, h'⟩ := (h : C = C' ∧ All2 (fun p q => p.1 = q.1 ∧ R p.2 q.2) ds zs)
    subst ec
    unfold Rep
    refine ⟨a, dx, xs, rfl, hG.trans h1, ?_⟩
    clear h1
    induction ds generalizing zs xs with
    | nil => cases zs with
      | nil => unfold RepF at h2 ⊢; exact h2
      | cons _ _ => exact h'.elim
    | cons d ds ih =>
      cases zs with
      | nil => exact h'.elim
      | cons z zs =>
        obtain ⟨k, d⟩ := d
        obtain ⟨k', z⟩ := z
        obtain ⟨⟨ek, hr⟩, h'⟩ := h'
        unfold RepF at h2 ⊢
        obtain ⟨v, vr, e, h3, h4⟩ := h2
        exact ⟨v, vr, by rw [e]; show (k, v) :: vr = (k', v) :: vr; rw [show k = k' from ek], hR d z v hr h3, ih zs vr h4 h'⟩
  | _ => exact ho.elim
theorem res_rep {K : PySem.W.Frag} {G G1 H : Hp} {gs : List (Addr × D)} (eG : Ex G G1) (hg : ∀ b y, gs.lookup b = some y → OwnR K G H b y ∧ G1 b = H b) : ∀ (n : Nat) (d z : D) (v : V), Res gs n d z → Rep K G d v → Rep K G1 z v
  | 0, d, z, v, h, r => by
    have e : d = z := h
    subst e
    exact r.mono eG
  | n + 1, d, z, v, h, r => by
    rcases h with e | ⟨b, y, e, hl, hc⟩
    · subst e; exact r.mono eG
    · subst e
      have ev : v = .ref b := by unfold Rep at r; exact r
      subst ev
      obtain ⟨ho, hb⟩ := hg b y hl
      exact resC_rep (res_rep eG hg n) hc ho hb
/-- a slot tells z -/
def Tells : Sl → D → Prop
  | .own _ x, z => x = z
  | .deep _ x gs, z => ∃ n, ResC (Res gs n) x z
  | _, _ => False
theorem lookup_mem {gs : List (Addr × D)} {b : Addr} {y : D} (h : gs.lookup b = some y) : b ∈ gs.map Prod.fst := by
  induction gs with
  | nil => simp at h
  | cons q gs ih =>
    obtain ⟨c, w⟩ := q
    rw [List.lookup_cons] at h
    by_cases hc : b = c
    · subst hc; exact List.mem_cons_self
    · have hc' : (b == c) = false := by simp [hc]
      rw [hc'] at h
      exact List.mem_cons_of_mem _ (ih h)
section
variable {K : PySem.W.Frag} {B G G' H H' : Hp} {σ : St} {δ : List Sl}
/-- a slot's own told as data, and what stands behind it -/
theorem frame_tell {i : Nat} {s : Sl} {z : D} (F : Frame K B G H σ δ) (e : δ[i]? = some s) (ht : Tells s z) : ∃ G1, Ex G G1 ∧ (∀ b, b ∈ ads s → G1 b = H b) ∧ (∀ b, b ∉ ads s → G1 b = G b) ∧ Frame K B G1 H σ (δ.set i (.d z)) := by
  classical
  let G1 : Hp := fun b => if b ∈ ads s then H b else G b
  have g1 : ∀ b, b ∈ ads s → G1 b = H b := fun b hb => if_pos hb
  have g2 : ∀ b, b ∉ ads s → G1 b = G b := fun b hb => if_neg hb
  have own : ∀ b ∈ ads s, B b = none ∧ G b = none := fun b hb => F.own b (owned_getA e hb)
  have eG : Ex G G1 := fun b o h => by
    rw [g2 b (fun hb => by rw [(own b hb).2] at h; cases h)]; exact h
  refine ⟨G1, eG, g1, g2, F.exB, fun b o h => ?_, fun b => ?_, ?_, fun b hb => ?_, F.nd.sublist (owned_set_no rfl)⟩
  · by_cases hb : b ∈ ads s
    · rw [g1 b hb] at h; exact h
    · rw [g2 b hb] at h; exact F.exG b o h
  · by_cases hb : b ∈ ads s
    · exact .inl (own b hb).1
    · rw [g2 b hb]; exact F.dis b
  · obtain ⟨ov, h1, h2⟩ := F.get e
    refine (F.sl.ex (H' := H) eG fun _ _ => rfl).setS (ov := none) i fun ow ee => ?_
    rw [h1] at ee
    cases ee
    cases s with
    | no => exact ht.elim
    | d x => exact ht.elim
    | own a x =>
      have e1 : x = z := ht
      subst e1
      obtain ⟨e2, ho⟩ := h2
      refine ⟨_, e2, ?_⟩
      have hz : ResC (Res [] 0) x x := by
        have all : ∀ {α : Type} {R : α → α → Prop}, (∀ y, R y y) → ∀ l : List α, All2 R l l := fun {α} {R} hr l => by
          induction l with
          | nil => trivial
          | cons y l ih => exact ⟨hr y, ih⟩
        cases x with
        | lst ds => exact all (fun y => rfl) ds
        | dct ds => exact all (fun y => ⟨rfl, rfl⟩) ds
        | dcT ds => exact all (fun y => ⟨rfl, rfl⟩) ds
        | obj C fs => exact ⟨rfl, all (fun y => ⟨rfl, rfl⟩) fs⟩
        | _ => exact ho.elim
      exact resC_rep (res_rep (gs := []) (H := H) eG (fun b y h => by simp at h) 0) hz ho (g1 a (List.mem_singleton.mpr rfl))
    | deep a x gs =>
      obtain ⟨n, hc⟩ := ht
      obtain ⟨e2, ho, hg⟩ := h2
      exact ⟨_, e2, resC_rep (res_rep (H := H) eG (fun b y h => ⟨hg.get h, g1 b (List.mem_cons_of_mem _ (lookup_mem h))⟩) n) hc ho (g1 a List.mem_cons_self)⟩
  · have hn : b ∉ ads s := fun hs => not_owned_set F.nd e hs (t := .d z) rfl hb
    rw [g2 b hn]
    exact F.own b ((owned_set_no rfl).subset hb)
end
/-! ### scalars, and tuples of such: they hold nothing that changes -/
mutual
def tsc : D → Prop
  | .non => True
  | .bl _ => True
  | .int _ => True
  | .str _ => True
  | .ty _ => True
  | .tup xs => tscs xs
  | _ => False
def tscs : List D → Prop
  | [] => True
  | x :: xs => tsc x ∧ tscs xs
end
mutual
theorem tsc_rep {K : PySem.W.Frag} {G G' : Hp} (hT : ∀ b xs, G b = some (.tup xs) → G' b = some (.tup xs)) : ∀ (x : D) (v : V), tsc x → Rep K G x v → Rep K G' x v
  | .non, v, _, h => by unfold Rep at h ⊢; exact h
  | .bl _, v, _, h => by unfold Rep at h ⊢; exact h
  | .int _, v, _, h => by unfold Rep at h ⊢; exact h
  | .str _, v, _, h => by unfold Rep at h ⊢; exact h
  | .ty _, v, _, h => by unfold Rep at h ⊢; exact h
  | .tup xs, v, t, h => by
    unfold Rep at h ⊢
    obtain ⟨a, vs, e, h1, h2⟩ := h
    exact ⟨a, vs, e, hT a vs h1, tscs_rep hT xs vs (by unfold tsc at t; exact t) h2⟩
  | .ptr _, v, t, _ => by unfold tsc at t; exact t.elim
  | .lst _, v, t, _ => by unfold tsc at t; exact t.elim
  | .ro _, v, t, _ => by unfold tsc at t; exact t.elim
  | .dct _, v, t, _ => by unfold tsc at t; exact t.elim
  | .dcT _, v, t, _ => by unfold tsc at t; exact t.elim
  | .obj _ _, v, t, _ => by unfold tsc at t; exact t.elim
theorem tscs_rep {K : PySem.W.Frag} {G G' : Hp} (hT : ∀ b xs, G b = some (.tup xs) → G' b = some (.tup xs)) : ∀ (xs : List D) (vs : List V), tscs xs → Reps K G xs vs → Reps K G' xs vs
  | [], vs, _, h => by unfold Reps at h ⊢; exact h
  | x :: xs, vs, t, h => by
    unfold tscs at t
    unfold Reps at h ⊢
    obtain ⟨v, vr, e, h1, h2⟩ := h
    exact ⟨v, vr, e, tsc_rep hT x v t.1 h1, tscs_rep hT xs vr t.2 h2⟩
end
def tscK {α : Type} : List (α × D) → Prop
  | [] => True
  | p :: ps => tsc p.2 ∧ tscK ps
/-- a new object whose things are such -/
def tscO : D → Prop
  | .lst xs => tscs xs
  | .dct ks => tscK ks
  | .dcT ks => tscK ks
  | _ => False
theorem tscO_own {K : PySem.W.Frag} {G G' H : Hp} {a : Addr} (hT : ∀ b xs, G b = some (.tup xs) → G' b = some (.tup xs)) {x : D} (t : tscO x) (h : OwnR K G H a x) : OwnR K G' H a x := by
  cases x with
  | lst xs => obtain ⟨vs, h1, h2⟩ := h; exact ⟨vs, h1, tscs_rep hT xs vs t h2⟩
  | dct ks =>
    obtain ⟨vs, h1, h2⟩ := h
    refine ⟨vs, h1, ?_⟩
    have t' : tscK ks := t
    clear h1 t
    induction ks generalizing vs with
    | nil => unfold RepK at h2 ⊢; exact h2
    | cons p ks ih =>
      obtain ⟨k, d⟩ := p
      unfold RepK at h2 ⊢
      obtain ⟨v, vr, e, h3, h4⟩ := h2
      exact ⟨v, vr, e, tsc_rep hT d v t'.1 h3, ih vr h4 t'.2⟩
  | dcT ks =>
    obtain ⟨vs, h1, h2⟩ := h
    refine ⟨vs, h1, ?_⟩
    have t' : tscK ks := t
    clear h1 t
    induction ks generalizing vs with
    | nil => unfold RepT at h2 ⊢; exact h2
    | cons p ks ih =>
      obtain ⟨k, d⟩ := p
      unfold RepT at h2 ⊢
      obtain ⟨v, vr, e, h3, h4⟩ := h2
      exact ⟨v, vr, e, tsc_rep hT d v t'.1 h3, ih vr h4 t'.2⟩
  | _ => exact t.elim
/-- what may be handed on where a slot was lent -/
def Free : R → Prop
  | .d x => tsc x
  | .own _ x => tscO x
  | _ => False
section
variable {K : PySem.W.Frag} {B G G1 G' H H' : Hp} {σ : St} {δ : List Sl}
/-- a slot that was lent as data is its own again -/
theorem frame_untell {i : Nat} {s : Sl} {z : D} (F : Frame K B G H σ δ) (e : δ[i]? = some s) (g1 : ∀ b, b ∈ ads s → G1 b = H b) (g2 : ∀ b, b ∉ ads s → G1 b = G b) (e2 : Ex G1 G') (F2 : Frame K B G' H' σ (δ.set i (.d z))) (eH : Ex H H') :
    ∃ G2, Ex G G2 ∧ Frame K B G2 H' σ δ ∧ ∀ r v, Free r → RV K B G' H' (δ.set i (.d z)) r v → RV K B G2 H' δ r v := by
  classical
  let G2 : Hp := fun b => if b ∈ ads s then none else G' b
  have q1 : ∀ b, b ∈ ads s → G2 b = none := fun b hb => if_pos hb
  have q2 : ∀ b, b ∉ ads s → G2 b = G' b := fun b hb => if_neg hb
  have own : ∀ b ∈ ads s, B b = none ∧ G b = none := fun b hb => F.own b (owned_getA e hb)
  obtain ⟨ov, h1, h2⟩ := F.get e
  have eG : Ex G G2 := fun b o h => by
    have hn : b ∉ ads s := fun hb => by rw [(own b hb).2] at h; cases h
    rw [q2 b hn]
    exact e2 b o (by rw [g2 b hn]; exact h)
  have atS : ∀ b ∈ ads s, ∃ o, G' b = some o ∧ H b = some o := fun b hb => by
    obtain ⟨o, ho⟩ := h2.there hb
    exact ⟨o, e2 b o (by rw [g1 b hb]; exact ho), ho⟩
  have hT : ∀ b xs, G' b = some (.tup xs) → G2 b = some (.tup xs) := fun b xs h => by
    have hn : b ∉ ads s := fun hb => by
      obtain ⟨o, ho, hH⟩ := atS b hb
      have nt : ∀ {y : D}, OwnR K G H b y → o ≠ .tup xs := fun {y} h => by
        cases y with
        | lst ds => obtain ⟨_, h, _⟩ := h; rw [hH] at h; cases h; exact fun z => (nomatch z)
        | dct ds => obtain ⟨_, h, _⟩ := h; rw [hH] at h; cases h; exact fun z => (nomatch z)
        | dcT ds => obtain ⟨_, h, _⟩ := h; rw [hH] at h; cases h; exact fun z => (nomatch z)
        | obj C ds => obtain ⟨_, _, h, _⟩ := h; rw [hH] at h; cases h; exact fun z => (nomatch z)
        | _ => exact h.elim
      have nt2 : o ≠ .tup xs := by
        cases s with
        | no => cases hb
        | d x => cases hb
        | own a x => cases List.mem_singleton.mp hb; exact nt h2.2
        | deep a x gs =>
          rcases List.mem_cons.mp hb with q | q
          · subst q; exact nt h2.2.1
          · obtain ⟨w, hw, ew⟩ := List.mem_map.mp q
            subst ew
            exact nt (h2.2.2 w hw)
      rw [ho] at h; cases h; exact nt2 rfl
    rw [q2 b hn]
    exact h
  have cov : ∀ b ∈ owned δ, b ∈ ads s ∨ b ∈ owned (δ.set i (.d z)) := fun b hb => by
    obtain ⟨j, t, e3, m⟩ := owned_mem hb
    by_cases hj : i = j
    · subst hj; rw [e] at e3; cases e3; exact .inl m
    · exact .inr (owned_getA (i := j) (by rw [List.getElem?_set_ne hj]; exact e3) m)
  refine ⟨G2, eG, ⟨F.exB.trans eH, fun b o h => ?_, fun b => ?_, F.sl.ex eG fun a ha => ?_, fun a ha => ⟨(F.own a ha).1, ?_⟩, F.nd⟩, fun r v hr rv => ?_⟩
  · by_cases hb : b ∈ ads s
    · rw [q1 b hb] at h; cases h
    · rw [q2 b hb] at h; exact F2.exG b o h
  · by_cases hb : b ∈ ads s
    · exact .inl (own b hb).1
    · rw [q2 b hb]; exact F2.dis b
  · obtain ⟨o, ho⟩ := F.there ha
    rw [ho]; exact eH a o ho
  · by_cases hb : a ∈ ads s
    · exact q1 a hb
    · rw [q2 a hb]
      rcases cov a ha with q | q
      · exact absurd q hb
      · exact (F2.own a q).2
  · cases r with
    | d x => exact tsc_rep hT x v hr rv
    | own a x =>
      obtain ⟨z1, z2, z3, z4, z5⟩ := rv
      have hn : a ∉ ads s := fun hb => by
        obtain ⟨o, ho, _⟩ := atS a hb
        rw [ho] at z4; cases z4
      refine ⟨z1, tscO_own hT hr z2, z3, (q2 a hn).trans z4, fun q => ?_⟩
      rcases cov a q with q | q
      · exact hn q
      · exact z5 q
    | deep a x gs => exact hr.elim
    | bor i a => exact hr.elim
end
section
variable {c : Cd} {p : Bool} {δ : List Sl} {te : TE} {tt : TT} {t : TS} {tr : TA} {Φ : R → List Sl → Prop} {N Bk Ct : List Sl → Prop} {Rt : R → List Sl → Prop}
/-- an expression that reads a slot as data -/
theorem we_lend (i : Nat) {s : Sl} (z : D) (hi : δ[i]? = some s) (ht : Tells s z) (h : WE (c0 c.K) true te (δ.set i (.d z)) fun r _ => Free r ∧ Φ r δ) : WE c p te δ Φ := by
  intro B G H σ Q F xr k
  obtain ⟨G1, e1, g1, g2, F1⟩ := frame_tell F hi ht
  refine h B G1 H σ Q F1 trivial fun r δ' v G' H' w e2 F2 rv p2 => ?_
  obtain ⟨ed, eH⟩ := p2 rfl
  subst ed
  obtain ⟨G2, e3, F3, hr⟩ := frame_untell F hi g1 g2 e2 F2 eH
  exact k r δ v G2 H' w.2 e3 F3 (hr r v w.1 rv) fun _ => ⟨rfl, eH⟩
theorem wt_lend {Φ : Bool → List Sl → Prop} (i : Nat) {s : Sl} (z : D) (hi : δ[i]? = some s) (ht : Tells s z) (h : WT (c0 c.K) true tt (δ.set i (.d z)) fun b _ => Φ b δ) : WT c p tt δ Φ := by
  intro B G H σ Q F xr k
  obtain ⟨G1, e1, g1, g2, F1⟩ := frame_tell F hi ht
  refine h B G1 H σ Q F1 trivial fun b δ' G' H' w e2 F2 p2 => ?_
  obtain ⟨ed, eH⟩ := p2 rfl
  subst ed
  obtain ⟨G2, e3, F3, hr⟩ := frame_untell F hi g1 g2 e2 F2 eH
  exact k b δ G2 H' w e3 F3 fun _ => ⟨rfl, eH⟩
/-- a slot's own, and what stands behind it, is frozen from here on -/
theorem w_tell (i : Nat) {s : Sl} (z : D) (hi : δ[i]? = some s) (ht : Tells s z) (h : W c t (δ.set i (.d z)) N Rt Bk Ct) : W c t δ N Rt Bk Ct := fun B G H σ D F xr k => by
  obtain ⟨G1, e1, g1, g2, F1⟩ := frame_tell F hi ht
  exact h B G1 H σ D F1 (c.mono _ _ _ e1 xr) (k.mono e1)
theorem w_deepen (i : Nat) {a : Addr} {x : D} (hi : δ[i]? = some (.own a x)) (h : W c t (δ.set i (.deep a x [])) N Rt Bk Ct) : W c t δ N Rt Bk Ct := fun B G H σ D F xr k => h B G H σ D (frame_deepen F hi) xr k
/-- an object behind a slot's -/
theorem we_gh (h : WE c p te δ fun r δ1 => ∃ b i y, r = .d (.ptr b) ∧ At δ1 i b y ∧ Φ (.bor i b) δ1) : WE c p te δ Φ := by
  intro B G H σ Q F xr k
  refine h B G H σ Q F xr fun r δ' v G' H' w e F' rv pp => ?_
  obtain ⟨b, i, y, er, hy, q⟩ := w
  subst er
  have ev : v = .ref b := by have z : Rep c.K G' (.ptr b) v := rv; unfold Rep at z; exact z
  exact k (.bor i b) δ' v G' H' q e F' ⟨ev, y, hy⟩ pp
end
end DL

/-! DL28: dicts whose keys are tuples; sorted. -/
namespace DL
open PySem PySem.Spec PyProof.Rows L2
open Evl (Ex)
/-! ### sorted(d), d's keys pairs of ints -/
def pk (p : Int × Int) : List Key := [.inl p.1, .inl p.2]
def pairAt (H : Hp) : V → Int × Int
  | .ref a => match H a with
    | some (.tup [.int i, .int j]) => (i, j)
    | _ => (0, 0)
  | _ => (0, 0)
theorem pairAt_of {H : Hp} {a : Addr} {i j : Int} (h : H a = some (.tup [.int i, .int j])) : pairAt H (.ref a) = (i, j) := by
  show (match H a with
    | some (.tup [.int i, .int j]) => (i, j)
    | _ => (0, 0)) = _
  rw [h]
/-- first by the first, then by the second -/
def lexP (p q : Int × Int) : Prop := p.1 < q.1 ∨ (p.1 = q.1 ∧ p.2 ≤ q.2)
def rSortedDT : List V → Hp → VK → Prop := fun vs H Q => ∃ (d : Addr) (kvs : List (List Key × V)) (ps : List (Int × Int)), vs = [V.ref d] ∧ Rd H d (.dT kvs) ∧ kvs.map (·.1) = ps.map pk ∧
  ∀ (zs : List (Addr × Int × Int)) (p : Addr), (zs.map (·.2)).Perm ps → (zs.map (·.2)).Pairwise lexP → (∀ z ∈ zs, H z.1 = some (.tup [.int z.2.1, .int z.2.2])) → H p = none → Q (.ref p) (upd H p (.lst (zs.map fun z => V.ref z.1)))
theorem kt_get {H : Hp} : ∀ {kvs : List (List Key × V)} {xs : List (List Key × Addr × Value)} {ps : List (Int × Int)}, KT H kvs xs → kvs.map (·.1) = ps.map pk → ∀ x ∈ xs, ∃ p : Int × Int, H x.2.1 = some (.tup [.int p.1, .int p.2])
  | _, _, ps, .nil, _, x, hx => by cases hx
  | _, _, [], .cons _ _, e, x, hx => by simp at e
  | _, _, p :: ps, .cons (a := kv) (b := y) h t, e, x, hx => by
    rw [List.map_cons, List.map_cons] at e
    have e1 := (List.cons.inj e).1
    have e2 := (List.cons.inj e).2
    rcases List.mem_cons.mp hx with q | q
    · subst q
      refine ⟨p, ?_⟩
      rw [h.2.1, e1]
      rfl
    · exact kt_get t e2 x q
theorem kt_pairs {H : Hp} : ∀ {kvs : List (List Key × V)} {xs : List (List Key × Addr × Value)} {ps : List (Int × Int)}, KT H kvs xs → kvs.map (·.1) = ps.map pk → (xs.map fun x => pairAt H (.ref x.2.1)) = ps
  | _, _, [], .nil, _ => rfl
  | _, _, _ :: _, .nil, e => by simp at e
  | _, _, [], .cons _ _, e => by simp at e
  | _, _, p :: ps, .cons (a := kv) (b := y) h t, e => by
    rw [List.map_cons, List.map_cons] at e
    have e1 := (List.cons.inj e).1
    have e2 := (List.cons.inj e).2
    rw [List.map_cons, kt_pairs t e2]
    congr 1
    have e3 : H y.2.1 = some (.tup [.int p.1, .int p.2]) := by rw [h.2.1, e1]; rfl
    exact pairAt_of e3
theorem cr_sortedDT {X : Cx} (hc : X.calm = true) : CallR X (.builtin "sorted") rSortedDT := by
  intro pins s σ H vs us Q I r h
  obtain ⟨d, kvs, ps, rfl, hd, hk, q⟩ := h
  obtain ⟨u, rfl, rx⟩ := vals1 r
  cases rx
  obtain ⟨z, hs, ks, pr, o, es, ep, ho, hx, hdt, he, hn⟩ := (show ObjOk X.prog X.w H s.heap d (.dT kvs) from hd.ok I.hok)
  have l1 : es.size = ks.length := size_of_entries he
  have l2 : kvs.length = ks.length := Paired.length pr
  refine Calls.call_function_entry PyProof.Rows.kind_sorted PyProof.Rows.plain_sorted PyProof.Rows.entry_sorted (PyProof.Rows.args_sorted1 _) ?_
  unfold Builtin.«sorted»
  refine wpAny_bind (m := checkCount "sorted" 1 1 _) (wpAny_pure ?_)
  refine wpAny_bind (PySem.W.kdu_collect (A := X.A.in1) (kdl_raw hs hx hdt) (I.ok.hd hc) ho (by omega) fun h' tk acc hkp it => ?_)
  have ea : acc.toList = ks.map fun x => Value.ref x.2.1 := by
    have hl : acc.toList.length = ks.length := by rw [Array.length_toList, it.1]; exact l1
    apply List.ext_getElem?
    intro j
    rw [List.getElem?_map]
    cases hj : acc.toList[j]? with
    | none =>
      have h1 := List.getElem?_eq_none_iff.mp hj
      rw [List.getElem?_eq_none (by omega)]
      all_goals rfl
    | some v =>
      obtain ⟨en, hen, hv⟩ := it.2 j v (by rw [← Array.getElem?_toList]; exact hj)
      have qe := entry_at he j
      rw [hen] at qe
      cases hb : ks[j]? with
      | none =>
        rw [hb] at qe
        exact nomatch (show some en = none from qe)
      | some b =>
        rw [hb] at qe
        have e2 : en = entryOfKey (tupleKind (mixKind X.prog X.w)) b := Option.some.inj qe
        rw [hv, e2]
        all_goals rfl
  have hlen : acc.toList.length ≤ sizeLine := by rw [ea, List.length_map, ← l2]; exact z
  have I1 : Inv X pins σ H { s with heap := h', toks := tk } := I.kept hkp
  refine wpAny_bind (wpAny_newList ?_ hlen)
  have hoL : (h'.push (seqObj "list" acc.toList.toArray 0)).get? h'.objs.size = some (seqObj "list" acc.toList.toArray 0) := Heap.get?_push_size _ rfl
  show wpAny _ _ _ _ _ { s with heap := h'.push (seqObj "list" acc.toList.toArray 0), toks := tk }
  have isP : ∀ v ∈ acc.toList, ∃ t i j, v = Value.ref t ∧ H t = some (.tup [.int i, .int j]) ∧ pairAt H (.ref t) = (i, j) := fun v hv => by
    rw [ea] at hv
    obtain ⟨x, hx, rfl⟩ := List.mem_map.mp hv
    obtain ⟨p, hp⟩ := kt_get pr hk x hx
    exact ⟨_, p.1, p.2, rfl, hp, pairAt_of hp⟩
  have hp : ∀ v ∈ acc.toList, Srt.IsPair (h'.push (seqObj "list" acc.toList.toArray 0)) v (pairAt H (backV v)).1 (pairAt H (backV v)).2 := fun v hv => by
    obtain ⟨t, i, j, rfl, ht, hpa⟩ := isP v hv
    obtain ⟨_, its2, r2, o2, ho2, hc2, n2, hd2⟩ := I1.hok _ _ ht
    obtain ⟨u1, u2, rfl, ri, rj⟩ := vals2 r2
    obtain ⟨t1, rfl⟩ := ri
    obtain ⟨t2, rfl⟩ := rj
    show Srt.IsPair _ _ (pairAt H (.ref t)).1 (pairAt H (.ref t)).2
    rw [hpa]
    exact ⟨t, o2, t1, t2, n2, rfl, Heap.get?_push_of_some _ ho2, hc2, hd2⟩
  refine wpAny_bind (wpAny_holding (wpAny_call_entry PyProof.Rows.slot_list_sort ⟨_, hoL, rfl⟩ PyProof.Rows.entry_list_sort
    (SrtO.list_sort_ord (s := { s with heap := h'.push (seqObj "list" acc.toList.toArray 0), toks := tk }) (SrtO.swo_lex fun u => pairAt H (backV u)) hoL hlen (fun h2 => SrtO.pairs_sortableO (by omega) hp fun o e => ?_) fun out h1 h2 => ⟨_, rfl, ?_⟩) (PyProof.Rows.args_list_sort _)))
  · have e' : some o = some (seqObj "list" acc.toList.toArray 0) := e.symm.trans hoL
    cases e'
    intro c
    exact absurd (Value.type.inj c) (by decide)
  · have h3 : ∀ u ∈ out, ∃ t i j, u = Value.ref t ∧ H t = some (.tup [.int i, .int j]) ∧ pairAt H (.ref t) = (i, j) := fun u hu => isP u (h2.perm.mem_iff.mp hu)
    obtain ⟨e', he'⟩ := PyProof.Rows.sortedHeap_at (vs := acc.toList) (out := out.toArray) hoL
    -- the addresses and their pairs
    have lift : ∀ l : List Value, (∀ u ∈ l, ∃ t i j, u = Value.ref t ∧ H t = some (.tup [.int i, .int j]) ∧ pairAt H (.ref t) = (i, j)) → ∃ zs : List (Addr × Int × Int), l = zs.map (fun z => Value.ref z.1) ∧ (∀ z ∈ zs, H z.1 = some (.tup [.int z.2.1, .int z.2.2])) ∧ l.map (fun u => pairAt H (backV u)) = zs.map (·.2) := by
      intro l
      induction l with
      | nil => intro _; exact ⟨[], rfl, fun z hz => (by cases hz), rfl⟩
      | cons u l ih =>
        intro hl
        obtain ⟨t, i, j, e1, e2, e3⟩ := hl u List.mem_cons_self
        obtain ⟨zs, g1, g2, g3⟩ := ih fun v hv => hl v (List.mem_cons_of_mem _ hv)
        subst e1
        refine ⟨(t, i, j) :: zs, by rw [List.map_cons, ← g1], fun z hz => ?_, ?_⟩
        · rcases List.mem_cons.mp hz with q | q
          · subst q; exact e2
          · exact g2 z q
        · rw [List.map_cons, List.map_cons, g3]
          congr 1
    obtain ⟨zs, z1, z2, z3⟩ := lift out h3
    have hperm : (zs.map (·.2)).Perm ps := by
      rw [← z3, ← kt_pairs pr hk]
      have e := h2.perm.map (fun u => pairAt H (backV u))
      rw [ea, List.map_map] at e
      exact e
    have hsort : (zs.map (·.2)).Pairwise lexP := by
      rw [← z3, List.pairwise_map]
      refine List.Pairwise.imp (fun {x y} h => ?_) h1
      have h' := SrtO.lexB_no.mp h
      unfold lexP
      omega
    have rv : Vals (zs.map fun z => V.ref z.1) out := by
      rw [z1]
      clear z1 z2 z3 hperm hsort
      induction zs with
      | nil => exact .nil
      | cons z zs ih => exact .cons rfl ih
    have hlen2 : (zs.map fun z => V.ref z.1).length ≤ sizeLine := by
      have e := h2.len
      have e2 := congrArg List.length z1
      rw [List.length_map] at e2 ⊢
      omega
    refine wpAny_pure ⟨_, rfl, .ref h'.objs.size, upd H h'.objs.size (.lst (zs.map fun z => V.ref z.1)), I1.laid (t' := tk) (fun b u e => ?_) (Nat.le_refl _)
      (show ObjOk X.prog X.w _ _ _ (.lst (zs.map fun z => V.ref z.1)) from ⟨hlen2, out, e', rv, he'⟩), rfl, q zs _ hperm hsort z2 (I1.hok.fresh (Nat.le_refl _))⟩
    have hb : b < h'.objs.size := Heap.lt_size e
    rw [PyProof.Rows.sortedHeap_old (Nat.ne_of_lt hb) (by rw [size_push']; exact Nat.lt_succ_of_lt hb)]
    exact Heap.get?_push_of_some _ e
/-! ### sorted(a tuple of texts) -/
def rSortedSU (K : PySem.W.Frag) : List V → Hp → VK → Prop := fun vs H Q => ∃ (a : Addr) (xs : List Str), vs = [V.ref a] ∧ SqT K H a (xs.map V.str) ∧ xs.length < 64 ∧
  ∀ (ys : List Str) (p : Addr), ys.Perm xs → PyProof.Rows.sortedS ys = true → H p = none → Q (.ref p) (upd H p (.lst (ys.map V.str)))
theorem cr_sortedSU {X : Cx} : CallR X (.builtin "sorted") (rSortedSU X.K) := by
  intro pins s σ H vs us Q I r h
  obtain ⟨a, xs, rfl, hs, h64, q⟩ := h
  obtain ⟨its, rv, ⟨o, ho, hc, n, hd⟩, _⟩ := I.tuple hs
  rw [Vals.ref1 r]
  have hlen0 := rv.length
  rw [List.length_map] at hlen0
  have hS := rv.strs
  have hz : its.length < 64 := by omega
  have hz2 : its.length ≤ sizeLine := by rw [sizeLine_eq]; omega
  refine Calls.call_function_entry PyProof.Rows.kind_sorted PyProof.Rows.plain_sorted PyProof.Rows.entry_sorted (PyProof.Rows.args_sorted1 _) ?_
  unfold Builtin.«sorted»
  refine wpAny_bind (m := checkCount "sorted" 1 1 _) (wpAny_pure ?_)
  refine wpAny_bind (PySem.wpAny_collect_seq a (.inr rfl) ho hc hd (fun h' hk => ?_) (by simpa using hz2))
  have I1 : Inv X pins σ H { s with heap := h' } := I.kept (t' := s.toks) hk
  refine wpAny_bind (wpAny_newList ?_ (by simpa using hz2))
  have hoL : (h'.push (seqObj "list" its.toArray 0)).get? h'.objs.size = some (seqObj "list" its.toArray 0) := Heap.get?_push_size _ rfl
  show wpAny _ _ _ _ _ { s with heap := h'.push (seqObj "list" its.toArray 0) }
  refine wpAny_bind (wpAny_holding (wpAny_call_entry PyProof.Rows.slot_list_sort ⟨_, hoL, rfl⟩ PyProof.Rows.entry_list_sort
    (PyProof.Rows.list_sort_treeK PyProof.Rows.strKind_oneLt hoL hS.keysOf (fun v₁ v₂ rest e => PyProof.Rows.keyKind_strs (by rw [← e]; exact hS)) hz fun st' a1 a2 => ⟨_, rfl, ?_⟩) (PyProof.Rows.args_list_sort _)))
  obtain ⟨ys, h1, h2, h3⟩ := PyProof.Rows.sorted_out_str hS a1 a2
  obtain ⟨e', he'⟩ := PyProof.Rows.sortedHeap_at (vs := its) (out := (PyProof.Rows.arrOf st').map (·.2)) hoL
  have hlen : (ys.map V.str).length ≤ sizeLine := by rw [List.length_map, h2.length_eq, sizeLine_eq]; omega
  refine wpAny_pure ⟨_, rfl, .ref h'.objs.size, upd H h'.objs.size (.lst (ys.map V.str)), I1.laid (t' := s.toks) (fun b u e => ?_) (Nat.le_refl _)
    (show ObjOk X.prog X.w _ _ _ (.lst (ys.map V.str)) from ⟨hlen, _, e', vals_of_strs h1, he'⟩), rfl, q ys _ h2 h3 (I1.hok.fresh (Nat.le_refl _))⟩
  have hb : b < h'.objs.size := Heap.lt_size e
  rw [PyProof.Rows.sortedHeap_old (Nat.ne_of_lt hb) (by rw [size_push']; exact Nat.lt_succ_of_lt hb)]
  exact Heap.get?_push_of_some _ e
end DL

/-! DL29: words of dicts with tuple keys; get, len, sorted, extend, sum, min. -/
namespace DL
open PySem PySem.Spec PyProof.Rows L2
open Evl (Ex)
def putT (kvs : List (List Key × D)) (k : List Key) (v : D) : List (List Key × D) :=
  if (kvs.any fun kv => decide (kv.1 = k)) = true then kvs.map (fun kv => if kv.1 = k then (kv.1, v) else kv) else kvs ++ [(k, v)]
def getT (kvs : List (List Key × D)) (k : List Key) : Option D := (kvs.find? fun kv => decide (kv.1 = k)).map (·.2)
theorem repT_any {K : PySem.W.Frag} {G : Hp} (k : List Key) : ∀ {ds : List (List Key × D)} {vs : List (List Key × V)}, RepT K G ds vs → (ds.any fun kv => decide (kv.1 = k)) = (vs.any fun kv => decide (kv.1 = k))
  | [], vs, h => by unfold RepT at h; subst h; rfl
  | (k', d) :: ds, vs, h => by
    unfold RepT at h
    obtain ⟨v, vr, e, h1, h2⟩ := h
    subst e
    rw [List.any_cons, List.any_cons, repT_any k h2]
theorem repT_map {K : PySem.W.Frag} {G : Hp} {k : List Key} {x : D} {w : V} (hx : Rep K G x w) : ∀ {ds : List (List Key × D)} {vs : List (List Key × V)}, RepT K G ds vs →
    RepT K G (ds.map (fun kv => if kv.1 = k then (kv.1, x) else kv)) (vs.map (fun kv => if kv.1 = k then (kv.1, w) else kv))
  | [], vs, h => by unfold RepT at h; subst h; unfold RepT; rfl
  | (k', d) :: ds, vs, h => by
    unfold RepT at h
    obtain ⟨v, vr, e, h1, h2⟩ := h
    subst e
    have ih := repT_map (k := k) hx h2
    rw [List.map_cons, List.map_cons]
    by_cases q : k' = k
    · simp only [if_pos q]
      unfold RepT
      exact ⟨w, _, rfl, hx, ih⟩
    · simp only [if_neg q]
      unfold RepT
      exact ⟨v, _, rfl, h1, ih⟩
theorem repT_app {K : PySem.W.Frag} {G : Hp} {k : List Key} {x : D} {w : V} (hx : Rep K G x w) : ∀ {ds : List (List Key × D)} {vs : List (List Key × V)}, RepT K G ds vs → RepT K G (ds ++ [(k, x)]) (vs ++ [(k, w)])
  | [], vs, h => by
    unfold RepT at h
    subst h
    show RepT K G [(k, x)] [(k, w)]
    unfold RepT
    exact ⟨w, [], rfl, hx, by unfold RepT; rfl⟩
  | (k', d) :: ds, vs, h => by
    unfold RepT at h
    obtain ⟨v, vr, e, h1, h2⟩ := h
    subst e
    show RepT K G ((k', d) :: (ds ++ [(k, x)])) ((k', v) :: (vr ++ [(k, w)]))
    unfold RepT
    exact ⟨v, _, rfl, h1, repT_app hx h2⟩
theorem repT_put {K : PySem.W.Frag} {G : Hp} {k : List Key} {x : D} {w : V} {ds : List (List Key × D)} {vs : List (List Key × V)} (h : RepT K G ds vs) (hx : Rep K G x w) : RepT K G (putT ds k x) (putK vs k w) := by
  unfold putT putK
  rw [repT_any k h]
  split
  · exact repT_map hx h
  · exact repT_app hx h
theorem repT_val {K : PySem.W.Frag} {G : Hp} {k : List Key} : ∀ {ds : List (List Key × D)} {vs : List (List Key × V)}, RepT K G ds vs → (getT ds k = none ∧ valV vs k = none) ∨ ∃ x v, getT ds k = some x ∧ valV vs k = some v ∧ Rep K G x v
  | [], vs, h => by unfold RepT at h; subst h; exact .inl ⟨rfl, rfl⟩
  | (k', d) :: ds, vs, h => by
    unfold RepT at h
    obtain ⟨v, vr, e, h1, h2⟩ := h
    subst e
    by_cases q : k' = k
    · refine .inr ⟨d, v, by simp [getT, q], by simp [valV, q], h1⟩
    · have ih := repT_val (k := k) h2
      have e1 : getT ((k', d) :: ds) k = getT ds k := by simp [getT, q]
      have e2 : valV ((k', v) :: vr) k = valV vr k := by simp [valV, q]
      rw [e1, e2]
      exact ih
theorem repT_len {K : PySem.W.Frag} {G : Hp} : ∀ {ds : List (List Key × D)} {vs : List (List Key × V)}, RepT K G ds vs → vs.length = ds.length
  | [], vs, h => by unfold RepT at h; subst h; rfl
  | (k', d) :: ds, vs, h => by
    unfold RepT at h
    obtain ⟨v, vr, e, h1, h2⟩ := h
    subst e
    simp [repT_len h2]

theorem putT_len (kvs : List (List Key × D)) (k : List Key) (v : D) : (putT kvs k v).length ≤ kvs.length + 1 := by
  unfold putT
  split
  · rw [List.length_map]; omega
  · simp
def keysL : List D → Option (List Key)
  | [] => some []
  | x :: xs => match dKey x with
    | some k => (keysL xs).map (k :: ·)
    | none => none
/-- a tuple as a key -/
def dKeyT : D → Option (List Key)
  | .tup xs => keysL xs
  | _ => none
theorem keysL_rep {K : PySem.W.Frag} {G : Hp} : ∀ {xs : List D} {ks : List Key} {vs : List V}, keysL xs = some ks → Reps K G xs vs → vs = ks.map kV
  | [], ks, vs, e, h => by cases e; unfold Reps at h; subst h; rfl
  | x :: xs, ks, vs, e, h => by
    unfold Reps at h
    obtain ⟨v, vr, e1, h1, h2⟩ := h
    subst e1
    unfold keysL at e
    cases q : dKey x with
    | none => rw [q] at e; cases e
    | some k =>
      rw [q] at e
      cases q2 : keysL xs with
      | none => rw [q2] at e; cases e
      | some kr =>
        rw [q2] at e
        cases e
        rw [List.map_cons, ← keysL_rep q2 h2, dKey_rep q h1]
theorem dKeyT_view {K : PySem.W.Frag} {B G H : Hp} {σ : St} {δ : List Sl} {r : R} {v : V} {x : D} {k : List Key} (F : Frame K B G H σ δ) (h : RW K G r v) (e : view δ r = some x) (hk : dKeyT x = some k) : ∃ b, v = .ref b ∧ H b = some (.tup (k.map kV)) := by
  cases x with
  | tup xs =>
    obtain ⟨a, vs, e1, h1, h2⟩ := view_tupH F h e
    have e2 := keysL_rep (show keysL xs = some k from hk) h2
    subst e2
    exact ⟨a, e1, h1⟩
  | _ => cases hk
section
variable {c : Cd}
theorem view_getT {B G H : Hp} {σ : St} {δ : List Sl} {r1 r2 : R} {v1 v2 : V} {x : D} {kds : List (List Key × D)} {key : List Key} (F : Frame c.K B G H σ δ) (h1 : RW c.K G r1 v1) (h2 : RW c.K G r2 v2) (e1 : view δ r1 = some x) (e2 : view δ r2 = some (.dcT kds)) (hk : dKeyT x = some key) :
    ∃ a, v2 = .ref a ∧ ((getT kds key = none ∧ DGet H a v1 none) ∨ ∃ y v, getT kds key = some y ∧ DGet H a v1 (some v) ∧ Rep c.K G y v) := by
  obtain ⟨a, vs, e, ha, hr⟩ := view_dcT F h2 e2
  obtain ⟨b, ek, hb⟩ := dKeyT_view F h1 e1 hk
  refine ⟨a, e, ?_⟩
  rcases repT_val (k := key) hr with ⟨q1, q2⟩ | ⟨y, v, q1, q2, q3⟩
  · exact .inl ⟨q1, .inr ⟨vs, key, b, ha, ek, hb, q2.symm⟩⟩
  · exact .inr ⟨y, v, q1, .inr ⟨vs, key, b, ha, ek, hb, q2.symm⟩, q3⟩
/-! ### in -/
def dInT (f : Bool → Bool) : Dop := fun x y k => ∃ key kds, dKeyT x = some key ∧ y = .dcT kds ∧ k (.d (.bl (f (getT kds key).isSome)))
def dInC (f : Bool → Bool) : Dop := fun x y k => dInB f x y k ∨ dInT f x y k
theorem opd_inT : OpD c rInK (dInT id) := by
  intro B G H σ δ r1 r2 v1 v2 x y Ψ Q F h1 h2 e1 e2 hf k
  obtain ⟨key, kds, hk, ey, q⟩ := hf
  subst ey
  obtain ⟨a, e, g⟩ := view_getT F h1 h2 e1 e2 hk
  rcases g with ⟨g1, g2⟩ | ⟨z, v, g1, g2, _⟩
  · rw [g1] at q
    exact ⟨a, none, e, g2, k _ _ G H q (Ex.refl G) (Ex.refl H) F (rep_bl (K := c.K) (G := G))⟩
  · rw [g1] at q
    exact ⟨a, some v, e, g2, k _ _ G H q (Ex.refl G) (Ex.refl H) F (rep_bl (K := c.K) (G := G))⟩
theorem opd_notInT : OpD c rNotInK (dInT not) := by
  intro B G H σ δ r1 r2 v1 v2 x y Ψ Q F h1 h2 e1 e2 hf k
  obtain ⟨key, kds, hk, ey, q⟩ := hf
  subst ey
  obtain ⟨a, e, g⟩ := view_getT F h1 h2 e1 e2 hk
  rcases g with ⟨g1, g2⟩ | ⟨z, v, g1, g2, _⟩
  · rw [g1] at q
    exact ⟨a, none, e, g2, k _ _ G H q (Ex.refl G) (Ex.refl H) F (rep_bl (K := c.K) (G := G))⟩
  · rw [g1] at q
    exact ⟨a, some v, e, g2, k _ _ G H q (Ex.refl G) (Ex.refl H) F (rep_bl (K := c.K) (G := G))⟩
theorem opd_inCI : OpD c (rInB c.K) (dInC id) := fun B G H σ δ r1 r2 v1 v2 x y Ψ Q F h1 h2 e1 e2 hf k => hf.elim
  (fun hf => opd_inBI B G H σ δ r1 r2 v1 v2 x y Ψ Q F h1 h2 e1 e2 hf k) (fun hf => .inr (opd_inT B G H σ δ r1 r2 v1 v2 x y Ψ Q F h1 h2 e1 e2 hf k))
theorem opd_inCN : OpD c (rNotInB c.K) (dInC not) := fun B G H σ δ r1 r2 v1 v2 x y Ψ Q F h1 h2 e1 e2 hf k => hf.elim
  (fun hf => opd_inBN B G H σ δ r1 r2 v1 v2 x y Ψ Q F h1 h2 e1 e2 hf k) (fun hf => .inr (opd_notInT B G H σ δ r1 r2 v1 v2 x y Ψ Q F h1 h2 e1 e2 hf k))
/-! ### d[k] -/
def dIxC : Dop := fun x y k => dIxB x y k ∨ ∃ key kds z, dKeyT y = some key ∧ x = .dcT kds ∧ getT kds key = some z ∧ k (.d z)
theorem opd_ixC : OpD c (rIxB c.K) dIxC := by
  intro B G H σ δ r1 r2 v1 v2 x y Ψ Q F h1 h2 e1 e2 hf k
  rcases hf with hf | ⟨key, kds, z, hk, ex, hz, q⟩
  · exact opd_ixB B G H σ δ r1 r2 v1 v2 x y Ψ Q F h1 h2 e1 e2 hf k
  · subst ex
    obtain ⟨a, e, g⟩ := view_getT F h2 h1 e2 e1 hk
    rcases g with ⟨g1, _⟩ | ⟨w, v, g1, g2, g3⟩
    · rw [g1] at hz; cases hz
    · rw [g1] at hz
      cases hz
      exact .inr ⟨a, v, e, g2, k _ _ G H q (Ex.refl G) (Ex.refl H) F g3⟩
end
section
variable {x y z : D} {k : R → Prop} {kds : List (Key × D)} {key : Key} {tds : List (List Key × D)} {tk : List Key} {xs : List D} {i : Int} {t : Str} {ch : Nat}
theorem dInC_B {f : Bool → Bool} (h : dInB f x y k) : dInC f x y k := .inl h
theorem dInC_tI (hk : dKeyT x = some tk) (h : k (.d (.bl (getT tds tk).isSome))) : dInC id x (.dcT tds) k := .inr ⟨tk, tds, hk, rfl, h⟩
theorem dInC_tN (hk : dKeyT x = some tk) (h : k (.d (.bl (!(getT tds tk).isSome)))) : dInC not x (.dcT tds) k := .inr ⟨tk, tds, hk, rfl, h⟩
theorem dInC_kI (hk : dKey x = some key) (h : k (.d (.bl (DL.getD kds key).isSome))) : dInC id x (.dct kds) k := .inl (dInB_kI hk h)
theorem dInC_kN (hk : dKey x = some key) (h : k (.d (.bl (!(DL.getD kds key).isSome)))) : dInC not x (.dct kds) k := .inl (dInB_kN hk h)
theorem dInC_sI {z : Str} (h : k (.d (.bl (decide (ch ∈ z.cps.toList))))) : dInC id (.str ⟨#[ch]⟩) (.str z) k := .inl (dInB_sI h)
theorem dInC_sN {z : Str} (h : k (.d (.bl (!decide (ch ∈ z.cps.toList))))) : dInC not (.str ⟨#[ch]⟩) (.str z) k := .inl (dInB_sN h)
theorem dInC_lI (h1 : flatD x = true) (h2 : xs.all flatD = true) (h : k (.d (.bl (inD x xs)))) : dInC id x (.lst xs) k := .inl (dInB_lI h1 h2 h)
theorem dInC_lN (h1 : flatD x = true) (h2 : xs.all flatD = true) (h : k (.d (.bl (!inD x xs)))) : dInC not x (.lst xs) k := .inl (dInB_lN h1 h2 h)
theorem dInC_uI (h1 : flatD x = true) (h2 : xs.all flatD = true) (h : k (.d (.bl (inD x xs)))) : dInC id x (.tup xs) k := .inl (dInB_tI h1 h2 h)
theorem dInC_uN (h1 : flatD x = true) (h2 : xs.all flatD = true) (h : k (.d (.bl (!inD x xs)))) : dInC not x (.tup xs) k := .inl (dInB_tN h1 h2 h)
theorem dIxC_l (h1 : atI xs i = some x) (h : k (.d x)) : dIxC (.lst xs) (.int i) k := .inl (dIxB_l h1 h)
theorem dIxC_r (h1 : atI xs i = some x) (h : k (.d x)) : dIxC (.ro xs) (.int i) k := .inl (dIxB_r h1 h)
theorem dIxC_u (h1 : atI xs i = some x) (h : k (.d x)) : dIxC (.tup xs) (.int i) k := .inl (dIxB_t h1 h)
theorem dIxC_s (h0 : t.length ≤ 16000000) (h1 : atI t.cps.toList i = some ch) (h : k (.d (.str ⟨#[ch]⟩))) : dIxC (.str t) (.int i) k := .inl (dIxB_s h0 h1 h)
theorem dIxC_k (hk : dKey y = some key) (h1 : DL.getD kds key = some z) (h : k (.d z)) : dIxC (.dct kds) y k := .inl (dIxB_k hk h1 h)
theorem dIxC_t (hk : dKeyT y = some tk) (h1 : getT tds tk = some z) (h : k (.d z)) : dIxC (.dcT tds) y k := .inr ⟨tk, tds, z, hk, rfl, h1, h⟩
end
/-! ### d[k] = v -/
theorem own_dcT {K : PySem.W.Frag} {B G H : Hp} {σ : St} {δ : List Sl} {i : Nat} {a : Addr} {ds : List (List Key × D)} (F : Frame K B G H σ δ) (e : δ[i]? = some (.own a (.dcT ds))) : ∃ xs, H a = some (.dT xs) ∧ RepT K G ds xs := by
  obtain ⟨ov, _, _, h⟩ := F.get e
  exact h
section
variable {c : Cd} {p : Bool} {δ : List Sl} {ta tb te ty : TE} {Φ : R → List Sl → Prop}
theorem wg_setT {r : R} {Φ : List Sl → Prop} (h : ∃ x, frz r = .d x ∧ WE c false ta δ fun r1 δ1 => ∃ i a, r1 = .bor i a ∧ WE c false tb δ1 fun r2 δ2 =>
    ∃ y key kds, view δ2 (frz r2) = some y ∧ dKeyT y = some key ∧ δ2[i]? = some (.own a (.dcT kds)) ∧ kds.length < 100000 ∧ ∀ δ3, δ3 = δ2.set i (.own a (.dcT (putT kds key x))) → Φ δ3) :
    WG c (gSub ta tb rSetB) r δ Φ := by
  intro B G H σ v Q F x k rv
  obtain ⟨y, hy, h⟩ := h
  obtain ⟨G0, e0, F0, rw0⟩ := k.weak F
  rw [hy] at rw0
  refine h B G0 H σ _ F0 (c.mono _ _ _ e0 x) fun r1 δ1 v1 G1 H1 w1 e1 F1 rv1 p1 => ?_
  obtain ⟨i, a, er, w1⟩ := w1
  subst er
  obtain ⟨ev, _⟩ := rv1
  subst ev
  refine w1 B G1 H1 σ _ F1 (c.mono _ _ _ (e0.trans e1) x) fun r2 δ2 v2 G2 H2 w2 e2 F2 rv2 p2 => ?_
  obtain ⟨w, key, kds, hw, hk, hd, hl, w2⟩ := w2
  obtain ⟨G2', e2', F2', rw2⟩ := rv2.weak F2
  obtain ⟨b, ev2, hb⟩ := dKeyT_view F2' rw2 hw hk
  subst ev2
  have hv : Rep c.K G2' y v := Rep.mono (e1.trans (e2.trans e2')) (show Rep c.K G0 y v from rw0)
  obtain ⟨xs, hx, hr⟩ := own_dcT F2' hd
  have hl2 : xs.length < sizeLine := by rw [repT_len hr, sizeLine_eq]; omega
  refine .inr ⟨a, _, rfl, .inr ⟨xs, key, b, hx, rfl, hb, hl2, rfl⟩, ?_⟩
  exact rv _ _ G2' _ (w2 _ rfl) (e0.trans (e1.trans (e2.trans e2'))) (frame_mut F2' hd ⟨_, upd_same, repT_put hr hv⟩)
theorem we_dnewT (h : ∀ a, Φ (.own a (.dcT [])) δ) : WE c p tDNewT δ Φ := by
  intro B G H σ Q F _ k a ha
  obtain ⟨h1, h2, h3⟩ := F.fresh ha
  exact k _ δ _ G _ (h a) (Ex.refl G) (F.ex (Ex.new ha)) ⟨rfl, ⟨[], upd_same, by unfold RepT; rfl⟩, h1, h2, h3⟩ fun _ => ⟨rfl, Ex.new ha⟩
/-! ### d.get(k) -/
theorem isD_view {B G H : Hp} {σ : St} {r : R} {v : V} {x : D} (F : Frame c.K B G H σ δ) (h : RW c.K G r v) (e : view δ r = some x) (hx : (∃ kds, x = .dct kds) ∨ ∃ kds, x = .dcT kds) : ∃ a, v = .ref a ∧ IsD H a := by
  rcases hx with ⟨kds, rfl⟩ | ⟨kds, rfl⟩
  · obtain ⟨a, xs, e1, h1, _⟩ := view_dct F h e; exact ⟨a, e1, .inl ⟨xs, h1⟩⟩
  · obtain ⟨a, xs, e1, h1, _⟩ := view_dcT F h e; exact ⟨a, e1, .inr ⟨xs, h1⟩⟩
/-- what d.get(k) tells -/
def getV (x y : D) (o : Option D) : Prop := (∃ key kds, dKey y = some key ∧ x = .dct kds ∧ o = DL.getD kds key) ∨ ∃ key kds, dKeyT y = some key ∧ x = .dcT kds ∧ o = getT kds key
theorem we_get1 (h : WE c p ta δ fun r1 δ1 => (∃ x, view δ1 (frz r1) = some x ∧ ((∃ kds, x = .dct kds) ∨ ∃ kds, x = .dcT kds)) ∧ WE c p tb δ1 fun r2 δ2 => ∃ x y o, view δ2 (frz r1) = some x ∧ view δ2 (frz r2) = some y ∧ getV x y o ∧ Φ (.d (o.getD .non)) δ2) : WE c p (tDGet1 ta tb) δ Φ := by
  intro B G H σ Q F x k
  refine h B G H σ _ F x fun r1 δ1 v1 G1 H1 w1 e1 F1 rv1 p1 => ?_
  obtain ⟨⟨z, hz, hd⟩, w1⟩ := w1
  obtain ⟨G1', e1', F1', rw1⟩ := rv1.weak F1
  obtain ⟨a, ea, hD⟩ := isD_view F1' rw1 hz hd
  refine ⟨a, ea, hD, ?_⟩
  refine w1 B G1' H1 σ _ F1' (c.mono _ _ _ (e1.trans e1') x) fun r2 δ2 v2 G2 H2 w2 e2 F2 rv2 p2 => ?_
  obtain ⟨G2', e2', F2', rw2⟩ := rv2.weak F2
  obtain ⟨z1, z2, o, hz1, hz2, hg, q⟩ := w2
  have fin : ∀ ov : Option V, DGet H2 a v2 ov → Rep c.K G2' (o.getD .non) (ov.getD .non) → ∃ o, DGet H2 a v2 o ∧ Q (o.getD .non) H2 := fun ov g r =>
    ⟨ov, g, k _ δ2 _ G2' H2 q ((e1.trans e1').trans (e2.trans e2')) F2' r fun hp => ⟨(p2 hp).1.trans (p1 hp).1, (p1 hp).2.trans (p2 hp).2⟩⟩
  have rw1' := rw1.mono (e2.trans e2')
  rcases hg with ⟨key, kds, hk, ex, eo⟩ | ⟨key, kds, hk, ex, eo⟩
  · subst ex
    obtain ⟨a2, ea2, g⟩ := view_get F2' rw2 rw1' hz2 hz1 hk
    rw [ea] at ea2
    cases ea2
    rcases g with ⟨g1, g2⟩ | ⟨y, v, g1, g2, g3⟩
    · subst eo; exact fin none g2 (by rw [g1]; exact rep_non)
    · subst eo; exact fin (some v) g2 (by rw [g1]; exact g3)
  · subst ex
    obtain ⟨a2, ea2, g⟩ := view_getT F2' rw2 rw1' hz2 hz1 hk
    rw [ea] at ea2
    cases ea2
    rcases g with ⟨g1, g2⟩ | ⟨y, v, g1, g2, g3⟩
    · subst eo; exact fin none g2 (by rw [g1]; exact rep_non)
    · subst eo; exact fin (some v) g2 (by rw [g1]; exact g3)
end
theorem getV_k {kds : List (Key × D)} {y : D} {key : Key} (hk : dKey y = some key) : getV (.dct kds) y (DL.getD kds key) := .inl ⟨key, kds, hk, rfl, rfl⟩
theorem getV_t {kds : List (List Key × D)} {y : D} {key : List Key} (hk : dKeyT y = some key) : getV (.dcT kds) y (getT kds key) := .inr ⟨key, kds, hk, rfl, rfl⟩
/-! ### len -/
def rLenK : List V → Hp → VK → Prop := fun xs H Q => ∃ a kvs, xs = [.ref a] ∧ Rd H a (.dK kvs) ∧ Q (.int kvs.length) H
def rLenT : List V → Hp → VK → Prop := fun xs H Q => ∃ a kvs, xs = [.ref a] ∧ Rd H a (.dT kvs) ∧ Q (.int kvs.length) H
theorem call_lenK {X : Cx} : CallR X (.builtin "len") rLenK := by
  intro pins s σ H xs us Q I r h
  obtain ⟨a, kvs, rfl, hd, q⟩ := h
  obtain ⟨u, rfl, rx⟩ := vals1 r
  cases rx
  exact d_len I hd fun t s' I' => ⟨.int kvs.length, H, I', ⟨t, rfl⟩, q⟩
theorem call_lenT {X : Cx} : CallR X (.builtin "len") rLenT := by
  intro pins s σ H xs us Q I r h
  obtain ⟨a, kvs, rfl, hd, q⟩ := h
  obtain ⟨u, rfl, rx⟩ := vals1 r
  cases rx
  obtain ⟨z, hs, ks, pr, o, es, ep, ho, hx, hdt, he, hn⟩ := (show ObjOk X.prog X.w H s.heap a (.dT kvs) from hd.ok I.hok)
  have l1 : es.size = ks.length := size_of_entries he
  have l2 : kvs.length = ks.length := Paired.length pr
  have l3 : (es.size : Int) = (kvs.length : Int) := by omega
  refine PyProof.Rows.call_len_slot (n := (kvs.length : Int)) (T := "dict") ⟨o, ho, hx.1⟩ PySem.F.slot_dict_len (fun Q' hq => ?_) (by omega) (by rw [sizeLine_eq] at z; omega) ⟨.int kvs.length, H, I.tok _, ⟨_, rfl⟩, q⟩
  have hraw : s.heap.DictRaw a es ep := ⟨o, ho, hx, hdt⟩
  exact call_len_raw hs hraw (by rw [l3]; exact hq)
def rLenB (K : PySem.W.Frag) : List V → Hp → VK → Prop := fun xs H Q => rLenA K xs H Q ∨ rLenK xs H Q ∨ rLenT xs H Q
theorem call_lenB {X : Cx} : CallR X (.builtin "len") (rLenB X.K) := fun pins s σ H xs us Q I r h => h.elim (call_lenA pins s σ H xs us Q I r) fun h => h.elim (call_lenK pins s σ H xs us Q I r) (call_lenT pins s σ H xs us Q I r)
def lenB : D → Option Nat
  | .dct kds => some kds.length
  | .dcT kds => some kds.length
  | x => lenD x
theorem cad_lenB {c : Cd} : CaD c (rLenB c.K) fun ds k => ∃ x, ds = [x] ∧ strOk x ∧ ∃ n, lenB x = some n ∧ k (.d (.int (n : Int))) := by
  intro B G H σ δ rs vs ds Ψ Q F hr hv hd k
  have hd' := hd
  obtain ⟨x, e, hs, n, hn, q⟩ := hd
  subst e
  obtain ⟨r1, w, e1, e2, h1, h2⟩ := view_one hv hr
  have done : lenD x = some n → rLenB c.K vs H Q := fun hn' => .inl (cad_len B G H σ δ rs vs [x] Ψ Q F hr hv ⟨x, rfl, hs, n, hn', q⟩ k)
  have fin := fun v (hv : v = V.int n) => k _ v G H q (Ex.refl G) (Ex.refl H) F (by rw [hv]; exact rep_int (K := c.K) (G := G))
  cases x with
  | dct kds =>
    cases hn
    subst e2
    obtain ⟨a, xs, e3, g1, g2⟩ := view_dct F h2 h1
    subst e3
    exact .inr (.inl ⟨a, xs, rfl, g1, fin _ (by rw [repK_len g2])⟩)
  | dcT kds =>
    cases hn
    subst e2
    obtain ⟨a, xs, e3, g1, g2⟩ := view_dcT F h2 h1
    subst e3
    exact .inr (.inr ⟨a, xs, rfl, g1, fin _ (by rw [repT_len g2])⟩)
  | _ => exact done hn
theorem ex_lenB {x : D} {n : Nat} {P : Nat → Prop} (h1 : strOk x) (h2 : lenB x = some n) (q : P n) : ∃ x', [x] = [x'] ∧ strOk x' ∧ ∃ n, lenB x' = some n ∧ P n := ⟨x, rfl, h1, n, h2, q⟩
/-! ### sorted -/
def pd (p : Int × Int) : D := .tup [.int p.1, .int p.2]
def rSortB (K : PySem.W.Frag) : List V → Hp → VK → Prop := fun vs H Q => rSortedDT vs H Q ∨ L2.rSortedPO K vs H Q ∨ L2.rSortedS K vs H Q ∨ rSortedSU K vs H Q
theorem call_sortB {X : Cx} (hc : X.calm = true) : CallR X (.builtin "sorted") (rSortB X.K) := fun pins s σ H xs us Q I r h =>
  h.elim (cr_sortedDT hc pins s σ H xs us Q I r) fun h => h.elim (cr_sortedPO pins s σ H xs us Q I r) fun h => h.elim (cr_sortedS pins s σ H xs us Q I r) (cr_sortedSU pins s σ H xs us Q I r)
theorem reps_pd {K : PySem.W.Frag} {G : Hp} : ∀ (zs : List (Addr × Int × Int)), (∀ z ∈ zs, G z.1 = some (.tup [.int z.2.1, .int z.2.2])) → Reps K G ((zs.map (·.2)).map pd) (zs.map fun z => V.ref z.1)
  | [], _ => reps_nil
  | z :: zs, h => by
    refine reps_cons ?_ (reps_pd zs fun w hw => h w (List.mem_cons_of_mem _ hw))
    show Rep K G (.tup [.int z.2.1, .int z.2.2]) (.ref z.1)
    unfold Rep
    exact ⟨z.1, _, rfl, h z List.mem_cons_self, reps_cons rep_int (reps_cons rep_int reps_nil)⟩
theorem repT_keys {K : PySem.W.Frag} {G : Hp} : ∀ {ds : List (List Key × D)} {vs : List (List Key × V)}, RepT K G ds vs → vs.map (·.1) = ds.map (·.1)
  | [], vs, h => by unfold RepT at h; subst h; rfl
  | (k, d) :: ds, vs, h => by
    unfold RepT at h
    obtain ⟨v, vr, e, _, h2⟩ := h
    subst e
    rw [List.map_cons, List.map_cons, repT_keys h2]
theorem pd_rep {K : PySem.W.Frag} {G : Hp} {p : Int × Int} {w : V} (h : Rep K G (pd p) w) : ∃ t : Addr, w = .ref t ∧ G t = some (.tup [.int p.1, .int p.2]) := by
  have h1 : Rep K G (.tup [.int p.1, .int p.2]) w := h
  unfold Rep at h1
  obtain ⟨a, xs, e1, g1, g2⟩ := h1
  have e2 : xs = [V.int p.1, V.int p.2] := by
    unfold Reps at g2
    obtain ⟨u1, r1, q1, q2, q3⟩ := g2
    unfold Reps at q3
    obtain ⟨u2, r2, q4, q5, q6⟩ := q3
    unfold Reps at q6
    unfold Rep at q2 q5
    rw [q1, q4, q6, q2, q5]
  exact ⟨a, e1, by rw [g1, e2]⟩
theorem pds_addr {K : PySem.W.Frag} {G : Hp} : ∀ {ps : List (Int × Int)} {vs : List V}, Reps K G (ps.map pd) vs → ∀ v ∈ vs, ∃ (t : Addr) (p : Int × Int), v = V.ref t ∧ G t = some (.tup [.int p.1, .int p.2])
  | [], vs, h, v, hv => by unfold Reps at h; rw [h] at hv; cases hv
  | p :: ps, vs, h, v, hv => by
    have h' : Reps K G (pd p :: ps.map pd) vs := h
    unfold Reps at h'
    obtain ⟨w, vr, e, h1, h2⟩ := h'
    subst e
    rcases List.mem_cons.mp hv with q | q
    · subst q
      obtain ⟨t, e1, g1⟩ := pd_rep h1
      exact ⟨t, p, e1, g1⟩
    · exact pds_addr h2 v q
theorem pds_map {K : PySem.W.Frag} {G H : Hp} (e : Ex G H) : ∀ {ps : List (Int × Int)} {vs : List V}, Reps K G (ps.map pd) vs → vs.map (pairAt H) = ps
  | [], vs, h => by unfold Reps at h; rw [h]; rfl
  | p :: ps, vs, h => by
    have h' : Reps K G (pd p :: ps.map pd) vs := h
    unfold Reps at h'
    obtain ⟨w, vr, e0, h1, h2⟩ := h'
    subst e0
    obtain ⟨t, e1, g1⟩ := pd_rep h1
    rw [List.map_cons, pds_map e h2, e1, pairAt_of (e _ _ g1)]
theorem cad_sortB {c : Cd} : CaD c (rSortB c.K) fun ds k => ∃ x, ds = [x] ∧ ((∃ (kds : List (List Key × D)) (ps : List (Int × Int)), x = .dcT kds ∧ kds.map (·.1) = ps.map pk ∧ ∀ (a : Addr) (qs : List (Int × Int)), qs.Perm ps → qs.Pairwise lexP → k (.own a (.lst (qs.map pd)))) ∨
    (∃ ps : List (Int × Int), x = .lst (ps.map pd) ∧ ∀ (a : Addr) (qs : List (Int × Int)), qs.Perm ps → qs.Pairwise lexP → k (.own a (.lst (qs.map pd)))) ∨
    (∃ ss : List Str, x = .lst (ss.map .str) ∧ ss.length < 64 ∧ ∀ (a : Addr) (zs : List Str), zs.Perm ss → sortedS zs = true → k (.own a (.lst (zs.map .str)))) ∨
    ∃ ss : List Str, x = .tup (ss.map .str) ∧ ss.length < 64 ∧ ∀ (a : Addr) (zs : List Str), zs.Perm ss → sortedS zs = true → k (.own a (.lst (zs.map .str)))) := by
  intro B G H σ δ rs vs ds Ψ Q F hr hv hd k
  obtain ⟨x, e, hd⟩ := hd
  subst e
  obtain ⟨r1, w, e1, e2, h1, h2⟩ := view_one hv hr
  subst e2
  rcases hd with ⟨kds, ps, ex, hk, q⟩ | ⟨ps, ex, q⟩ | ⟨ss, ex, hl, q⟩ | ⟨ss, ex, hl, q⟩
  · subst ex
    obtain ⟨a, xs, e3, g1, g2⟩ := view_dcT F h2 h1
    subst e3
    refine .inl ⟨a, xs, ps, rfl, g1, (repT_keys g2).trans hk, fun zs l z1 z2 z3 hl => ?_⟩
    obtain ⟨G1, eG, gL, F1⟩ := F.tups (zs.map (·.1)) fun b hb => by
      obtain ⟨z, hz, e⟩ := List.mem_map.mp hb
      subst e
      exact ⟨_, z3 z hz⟩
    have hrep : Reps c.K G1 ((zs.map (·.2)).map pd) (zs.map fun z => V.ref z.1) := reps_pd zs fun z hz => by
      rw [gL z.1 (List.mem_map_of_mem hz)]; exact z3 z hz
    exact k _ _ G1 _ (q l _ z1 z2) eG (Ex.new hl) (F1.ex (Ex.new hl)) (rv_newL F1 hl hrep)
  · subst ex
    obtain ⟨a, xs, e3, g1, g2⟩ := view_lst F h2 h1
    subst e3
    refine .inr (.inl ⟨a, xs, pairAt H, rfl, .inl g1, fun x hx => ?_, fun ys l z1 z2 hl => ?_⟩)
    · obtain ⟨t, p, e, g⟩ := pds_addr g2 x hx
      have g' := F.exG _ _ g
      exact ⟨t, e, by rw [e, pairAt_of g']; exact g'⟩
    · have hp : ys.Perm xs := z2.perm
      have hm : (ys.map (pairAt H)).Perm ps := by rw [← pds_map F.exG g2]; exact hp.map _
      have hs : (ys.map (pairAt H)).Pairwise lexP := by
        rw [List.pairwise_map]
        refine List.Pairwise.imp (fun {x y} h => ?_) z1
        have h' := SrtO.lexB_no.mp h
        unfold lexP
        omega
      have hrep : Reps c.K G ((ys.map (pairAt H)).map pd) ys := by
        have all : ∀ l : List V, (∀ v ∈ l, v ∈ xs) → Reps c.K G ((l.map (pairAt H)).map pd) l := by
          intro l
          induction l with
          | nil => intro _; exact reps_nil
          | cons v l ih =>
            intro hm
            obtain ⟨t, p, e, g⟩ := pds_addr g2 v (hm v List.mem_cons_self)
            refine reps_cons ?_ (ih fun u hu => hm u (List.mem_cons_of_mem _ hu))
            rw [e, pairAt_of (F.exG _ _ g)]
            show Rep c.K G (.tup [.int p.1, .int p.2]) (.ref t)
            unfold Rep
            exact ⟨t, _, rfl, g, reps_cons rep_int (reps_cons rep_int reps_nil)⟩
        exact all ys fun v hv => hp.mem_iff.mp hv
      exact k _ _ G _ (q l _ hm hs) (Ex.refl G) (Ex.new hl) (F.ex (Ex.new hl)) (rv_newL F hl hrep)
  · subst ex
    obtain ⟨a, xs, e3, g1, g2⟩ := view_lst F h2 h1
    subst e3
    have e4 : xs = ss.map V.str := by
      have := strs_rep (strsD_map ss) g2
      exact this
    subst e4
    refine .inr (.inr (.inl ⟨a, ss, rfl, .inl g1, hl, fun ys l z1 z2 hl2 => ?_⟩))
    exact k _ _ G _ (q l _ z1 z2) (Ex.refl G) (Ex.new hl2) (F.ex (Ex.new hl2)) (rv_newL F hl2 (reps_strs _))
  · subst ex
    obtain ⟨a, xs, e3, g1, g2⟩ := view_tup F h2 h1
    subst e3
    have e4 : xs = ss.map V.str := by
      have := strs_rep (strsD_map ss) g2
      exact this
    subst e4
    refine .inr (.inr (.inr ⟨a, ss, rfl, g1, hl, fun ys l z1 z2 hl2 => ?_⟩))
    exact k _ _ G _ (q l _ z1 z2) (Ex.refl G) (Ex.new hl2) (F.ex (Ex.new hl2)) (rv_newL F hl2 (reps_strs _))
/-! ### extend -/
theorem mt_extendA {X : Cx} : MtR X "list.extend" rExtend := mt_extend
section
variable {c : Cd} {δ : List Sl} {te : TE} {tr : TA} {Φ : R → List Sl → Prop}
theorem we_extend (h : WE c false te δ fun r1 δ1 => ∃ i a, r1 = .bor i a ∧ (∃ ds, δ1[i]? = some (.own a (.lst ds))) ∧ WA c false tr δ1 fun rs δ2 => ∃ (ds es : List D), rs = [.d (.lst es)] ∧ δ2[i]? = some (.own a (.lst ds)) ∧ ds.length + es.length ≤ 100000 ∧
    ∀ δ3, δ3 = δ2.set i (.own a (.lst (ds ++ es))) → Φ (.d .non) δ3) : WE c false (tBM c.K "list" rExtend te tr) δ Φ := by
  intro B G H σ Q F x k
  refine h B G H σ _ F x fun r1 δ1 v1 G1 H1 w1 e1 F1 rv1 p1 => ?_
  obtain ⟨i, a, er, ⟨ds0, hd0⟩, w1⟩ := w1
  subst er
  obtain ⟨ev, _⟩ := rv1
  subst ev
  obtain ⟨xs0, hx0, _⟩ := own_lst F1 hd0
  refine ⟨.inl ⟨rfl, xs0, SqL.of hx0⟩, ?_⟩
  refine w1 B G1 H1 σ _ F1 (c.mono _ _ _ e1 x) fun rs δ2 vs G2 H2 w2 e2 F2 rv2 p2 => ?_
  obtain ⟨ds, es, er2, hd, hl, w2⟩ := w2
  subst er2
  obtain ⟨v2, vr, e3, h1, h2⟩ := rv2
  have e4 : vr = [] := h2
  subst e4
  subst e3
  obtain ⟨xs, hx, hr⟩ := own_lst F2 hd
  have h1' : Rep c.K G2 (.lst es) v2 := h1
  unfold Rep at h1'
  obtain ⟨b, zs, eb, hb, hz⟩ := h1'
  subst eb
  refine ⟨a, b, xs, zs, rfl, rfl, hx, F2.exG _ _ hb, by rw [reps_length hr, reps_length hz, sizeLine_eq]; omega, ?_⟩
  exact k _ _ _ G2 _ (w2 _ rfl) (e1.trans e2) (frame_mut F2 hd ⟨_, upd_same, reps_append hr hz⟩) (rep_non (K := c.K) (G := G2)) fun z => nomatch z
theorem ex_ext {i : Nat} {a : Addr} {ds es : List D} {P : List D → List D → Prop} (h1 : δ[i]? = some (.own a (.lst ds))) (h2 : ds.length + es.length ≤ 100000) (q : P ds es) :
    ∃ (ds' es' : List D), [R.d (.lst es)] = [.d (.lst es')] ∧ δ[i]? = some (.own a (.lst ds')) ∧ ds'.length + es'.length ≤ 100000 ∧ P ds' es' := ⟨ds, es, rfl, h1, h2, q⟩
end
/-! ### sum, min of a list -/
theorem cad_sum {c : Cd} : CaD c (rSum c.K) fun ds k => ∃ x, ds = [x] ∧ ∃ xs ns, x = .lst xs ∧ intsD xs = some ns ∧ k (.d (.int ns.sum)) := by
  intro B G H σ δ rs vs ds Ψ Q F hr hv hd k
  obtain ⟨x, e, xs, ns, ex, hn, q⟩ := hd
  subst e
  subst ex
  obtain ⟨r1, w, e1, e2, h1, h2⟩ := view_one hv hr
  subst e2
  obtain ⟨a, vs, e3, g1, g2⟩ := view_lst F h2 h1
  subst e3
  have e4 := ints_reps hn g2
  subst e4
  exact ⟨a, ns, rfl, .inl g1, k _ _ G H q (Ex.refl G) (Ex.refl H) F (rep_int (K := c.K) (G := G))⟩
theorem cad_minL {c : Cd} : CaD c (rMin c.K) fun ds k => ∃ x, ds = [x] ∧ ∃ xs ns, x = .lst xs ∧ intsD xs = some ns ∧ 0 < ns.length ∧ ∀ m, m ∈ ns → (∀ y, y ∈ ns → m ≤ y) → k (.d (.int m)) := by
  intro B G H σ δ rs vs ds Ψ Q F hr hv hd k
  obtain ⟨x, e, xs, ns, ex, hn, hl, q⟩ := hd
  subst e
  subst ex
  obtain ⟨r1, w, e1, e2, h1, h2⟩ := view_one hv hr
  subst e2
  obtain ⟨a, vs, e3, g1, g2⟩ := view_lst F h2 h1
  subst e3
  have e4 := ints_reps hn g2
  subst e4
  exact ⟨a, ns, rfl, .inl g1, hl, fun m h1 h2 => k _ _ G H (q m h1 h2) (Ex.refl G) (Ex.refl H) F (rep_int (K := c.K) (G := G))⟩
end DL

/-! DL30: isinstance of an own class; what stands behind a slot's own is changed, or put there. -/
theorem L2.Room.units1 {k : Nat} {A : PySem.Around} (r : L2.Room k A) : A.units + 1 < PySem.cLine := by have := r.units; omega
namespace DL
open PySem PySem.Spec PyProof.Rows L2
open Evl (Ex)
/-! ### isinstance(x, C), C an own class -/
structure ClsI (K : PySem.W.Frag) (C : Addr) : Prop where
  cl : Cls K C
  ha : PySem.W.findIn K (.ref C) "__class__" = some (some (.builtin "object.__class__"))
  hn : PySem.W.specialIn K (.builtin "object.__class__") "__get__" = some (some (.builtin "getset_descriptor.__get__"))
  htk : PySem.W.takesIn K (.builtin "object.__class__") = some true
  hm : PySem.W.mroIn K C (.type "object") = some true
  self : PySem.W.kitOne K (.ref C) (.ref C) = some true
  non : PySem.W.kitOne K (.type "NoneType") (.ref C) = some false
  bl : PySem.W.kitOne K (.type "bool") (.ref C) = some false
  int : PySem.W.kitOne K (.type "int") (.ref C) = some false
  str : PySem.W.kitOne K (.type "str") (.ref C) = some false
  lst : PySem.W.kitOne K (.type "list") (.ref C) = some false
  tup : PySem.W.kitOne K (.type "tuple") (.ref C) = some false
  dct : PySem.W.kitOne K (.type "dict") (.ref C) = some false
def rIsiC (K : PySem.W.Frag) : List V → Hp → VK → Prop := rIsi K
theorem call_isiC {X : Cx} : CallR X (.builtin "isinstance") (rIsiC X.K) := call_isi
def plainTy : D → Bool
  | .non => true | .bl _ => true | .int _ => true | .str _ => true | .lst _ => true | .tup _ => true | .dct _ => true | _ => false
theorem cad_isiC {c : Cd} : CaD c (rIsiC c.K) fun ds k => ∃ x C, ds = [x, .ptr C] ∧ ClsI c.K C ∧ ((∃ fs, x = .obj C fs ∧ k (.d (.bl true))) ∨ (plainTy x = true ∧ k (.d (.bl false)))) := by
  intro B G H σ δ rs vs ds Ψ Q F hr hv hd k
  obtain ⟨x, C, e, I, hd⟩ := hd
  subst e
  cases rs with
  | nil => have e := views_nil hv; cases e
  | cons r1 rs =>
  obtain ⟨x', es, e, e1, e2⟩ := views_cons hv
  cases e
  cases rs with
  | nil => have e := views_nil e2; cases e
  | cons r2 rs =>
  obtain ⟨y', es, e, e3, e4⟩ := views_cons e2
  cases e
  cases rs with
  | cons r3 rs => obtain ⟨_, _, e, _⟩ := views_cons e4; cases e
  | nil =>
  obtain ⟨v, vr, ev, h1, w, wr, ew, h2, h3⟩ := hr
  have e5 : wr = [] := h3
  subst e5
  subst ew
  subst ev
  have eC : w = .ref C := by have z := view_repH F h2 e3; unfold Rep at z; exact z
  subst eC
  have fin : ∀ b, Ψ (.d (.bl b)) → Q (.bl b) H := fun b q => k _ _ G H q (Ex.refl G) (Ex.refl H) F (rep_bl (K := c.K) (G := G))
  rcases hd with ⟨fs, ex, q⟩ | ⟨hp, q⟩
  · subst ex
    obtain ⟨a, dx, fvs, ea, ha, _⟩ := view_obj F h1 e1
    subst ea
    exact ⟨_, _, _, _, true, rfl, .own C, .base (.ins ha I.cl I.ha I.hn I.htk I.hm), I.self, fin true q⟩
  · have z := view_repH F h1 e1
    cases x with
    | non => unfold Rep at z; subst z; exact ⟨_, _, _, _, false, rfl, .own C, .base .non, I.non, fin false q⟩
    | bl b => unfold Rep at z; subst z; exact ⟨_, _, _, _, false, rfl, .own C, .base (.bl b), I.bl, fin false q⟩
    | int i => unfold Rep at z; subst z; exact ⟨_, _, _, _, false, rfl, .own C, .base (.int i), I.int, fin false q⟩
    | str s => unfold Rep at z; subst z; exact ⟨_, _, _, _, false, rfl, .own C, .base (.str s), I.str, fin false q⟩
    | lst ds =>
      obtain ⟨a, xs, ea, ha, _⟩ := view_lstH F h1 e1
      subst ea
      exact ⟨_, _, _, _, false, rfl, .own C, .base (.lst ha), I.lst, fin false q⟩
    | tup ds =>
      obtain ⟨a, xs, ea, ha, _⟩ := view_tupH F h1 e1
      subst ea
      exact ⟨_, _, _, _, false, rfl, .own C, .base (.tup ha), I.tup, fin false q⟩
    | dct ds =>
      obtain ⟨a, xs, ea, ha, _⟩ := view_dct F h1 e1
      subst ea
      rcases ha with ha | ⟨o, ha⟩
      · exact ⟨_, _, _, _, false, rfl, .own C, .base (.dK ha), I.dct, fin false q⟩
      · exact ⟨_, _, _, _, false, rfl, .own C, .fDict ha, I.dct, fin false q⟩
    | _ => cases hp
/-! ### what is reached through a slot's own is changed -/
section
variable {c : Cd} {p : Bool} {δ : List Sl} {te ta tb : TE} {tr : TA} {Φ : R → List Sl → Prop}
theorem at_lst {K : PySem.W.Frag} {B G H : Hp} {σ : L2.St} {i : Nat} {a : Addr} {ds : List D} (F : Frame K B G H σ δ) (e : At δ i a (.lst ds)) : ∃ xs, H a = some (.lst xs) ∧ Reps K G ds xs := (view_own F e).1
theorem we_muV {r : V → List V → Hp → VK → Prop} {f : Dmu} (hm : MuL r f) (h : WE c false te δ fun r1 δ1 => ∃ i a, r1 = .bor i a ∧ (∃ ds, At δ1 i a (.lst ds)) ∧ WA c false tr δ1 fun rs δ2 => ∃ ds es, datas rs = some es ∧ At δ2 i a (.lst ds) ∧
    f ds es fun ds' z => Φ (.d z) (upV δ2 i a (.lst ds'))) : WE c false (tBM c.K "list" r te tr) δ Φ := by
  intro B G H σ Q F x k
  refine h B G H σ _ F x fun r1 δ1 v1 G1 H1 w1 e1 F1 rv1 p1 => ?_
  obtain ⟨i, a, er, ⟨ds0, hd0⟩, w1⟩ := w1
  subst er
  obtain ⟨ev, _⟩ := rv1
  subst ev
  obtain ⟨xs0, hx0, _⟩ := at_lst F1 hd0
  refine ⟨.inl ⟨rfl, xs0, SqL.of hx0⟩, ?_⟩
  refine w1 B G1 H1 σ _ F1 (c.mono _ _ _ e1 x) fun rs δ2 vs G2 H2 w2 e2 F2 rv2 p2 => ?_
  obtain ⟨ds, es, he, hd, hf⟩ := w2
  obtain ⟨xs, hx, hr⟩ := at_lst F2 hd
  exact hm c.K G2 H2 a xs ds es vs _ Q hx F2.exG hr (datas_reps he rv2) hf fun ds' xs' z v q hr' hz =>
    k (.d z) _ v G2 _ q (e1.trans e2) (frame_mutV F2 hd ⟨_, upd_same, hr'⟩) hz fun z => nomatch z
theorem we_muV0 {r : V → List V → Hp → VK → Prop} {f : Dmu} (hm : MuL r f) (h : WE c false te δ fun r1 δ1 => ∃ i a ds, r1 = .bor i a ∧ At δ1 i a (.lst ds) ∧
    f ds [] fun ds' z => Φ (.d z) (upV δ1 i a (.lst ds'))) : WE c false (tBM0 c.K "list" r te) δ Φ := by
  intro B G H σ Q F x k
  refine h B G H σ _ F x fun r1 δ1 v1 G1 H1 w1 e1 F1 rv1 p1 => ?_
  obtain ⟨i, a, ds, er, hd, hf⟩ := w1
  subst er
  obtain ⟨ev, _⟩ := rv1
  subst ev
  obtain ⟨xs, hx, hr⟩ := at_lst F1 hd
  refine ⟨.inl ⟨rfl, xs, SqL.of hx⟩, ?_⟩
  exact hm c.K G1 H1 a xs ds [] [] _ Q hx F1.exG hr reps_nil hf fun ds' xs' z v q hr' hz =>
    k (.d z) _ v G1 _ q e1 (frame_mutV F1 hd ⟨_, upd_same, hr'⟩) hz fun z => nomatch z
theorem wg_setV {r : R} {Φ : List Sl → Prop} (h : ∃ x, frz r = .d x ∧ WE c false ta δ fun r1 δ1 => ∃ i a, r1 = .bor i a ∧ WE c false tb δ1 fun r2 δ2 =>
    (∃ n ds j, r2 = .d (.int n) ∧ At δ2 i a (.lst ds) ∧ ixN ds.length n = some j ∧ Φ (upV δ2 i a (.lst (ds.set j x)))) ∨
    (∃ y key kds, r2 = .d y ∧ dKey y = some key ∧ At δ2 i a (.dct kds) ∧ kds.length < 100000 ∧ Φ (upV δ2 i a (.dct (putD kds key x))))) :
    WG c (gSub ta tb rSetB) r δ Φ := by
  intro B G H σ v Q F x k rv
  obtain ⟨y, hy, h⟩ := h
  obtain ⟨G0, e0, F0, rw0⟩ := k.weak F
  rw [hy] at rw0
  refine h B G0 H σ _ F0 (c.mono _ _ _ e0 x) fun r1 δ1 v1 G1 H1 w1 e1 F1 rv1 p1 => ?_
  obtain ⟨i, a, er, w1⟩ := w1
  subst er
  obtain ⟨ev, _⟩ := rv1
  subst ev
  refine w1 B G1 H1 σ _ F1 (c.mono _ _ _ (e0.trans e1) x) fun r2 δ2 v2 G2 H2 w2 e2 F2 rv2 p2 => ?_
  have hv : Rep c.K G2 y v := Rep.mono (e1.trans e2) (show Rep c.K G0 y v from rw0)
  rcases w2 with ⟨n, ds, j, er2, hd, hj, w2⟩ | ⟨w, key, kds, er2, hk, hd, hl, w2⟩
  · subst er2
    have q2 : v2 = .int n := by have z : Rep c.K G2 (.int n) v2 := rv2; unfold Rep at z; exact z
    subst q2
    obtain ⟨xs, hx, hr⟩ := at_lst F2 hd
    refine .inl ⟨a, xs, n, j, rfl, rfl, hx, by rw [reps_length hr]; exact hj, ?_⟩
    exact rv _ _ G2 _ w2 (e0.trans (e1.trans e2)) (frame_mutV F2 hd ⟨_, upd_same, reps_set j hr hv⟩)
  · subst er2
    have q2 : v2 = kV key := dKey_rep hk (show Rep c.K G2 w v2 from rv2)
    subst q2
    obtain ⟨xs, hx, hr⟩ := (view_own F2 hd).1
    have hl2 : xs.length < sizeLine := by rw [repK_len' hr, sizeLine_eq]; omega
    refine .inr ⟨a, _, rfl, .inl ⟨xs, key, hx, rfl, hl2, rfl⟩, ?_⟩
    exact rv _ _ G2 _ w2 (e0.trans (e1.trans e2)) (frame_mutV F2 hd ⟨_, upd_same, repK_put hr hv⟩)
/-! ### own objects put into a slot's own -/
/-- new objects of one's own: the root, and what stands behind it -/
inductive NewO : R → Addr → List (Addr × D) → Prop
  | own (b : Addr) (y : D) : NewO (.own b y) b [(b, y)]
  | deep (b : Addr) (y : D) (hs : List (Addr × D)) : NewO (.deep b y hs) b ((b, y) :: hs)
theorem newO_rv {K : PySem.W.Frag} {B G H : Hp} {r : R} {v : V} {b : Addr} {hs : List (Addr × D)} (n : NewO r b hs) (h : RV K B G H δ r v) : v = .ref b ∧ OwnG K G H hs ∧ (∀ a ∈ hs.map Prod.fst, B a = none ∧ G a = none ∧ a ∉ owned δ) ∧ (hs.map Prod.fst).Nodup := by
  cases n with
  | own b y =>
    obtain ⟨e1, h1, h2, h3, h4⟩ := h
    refine ⟨e1, fun q hq => ?_, fun a ha => ?_, by simp⟩
    · cases List.mem_singleton.mp hq; exact h1
    · cases List.mem_singleton.mp ha; exact ⟨h2, h3, h4⟩
  | deep b y hs =>
    obtain ⟨e1, h1, h2, h3, h4⟩ := h
    refine ⟨e1, fun q hq => ?_, h3, h4⟩
    rcases List.mem_cons.mp hq with z | z
    · subst z; exact h1
    · exact h2 q z
/-- the slot's own is changed, new ones stand behind it -/
theorem frame_addG {K : PySem.W.Frag} {B G H : Hp} {σ : L2.St} {i : Nat} {a : Addr} {x y : D} {gs hs : List (Addr × D)} {o : HO} (F : Frame K B G H σ δ) (e : δ[i]? = some (.deep a x gs)) (hg : OwnG K G H hs) (hn : ∀ b ∈ hs.map Prod.fst, B b = none ∧ G b = none ∧ b ∉ owned δ) (hd : (hs.map Prod.fst).Nodup)
    (h : OwnR K G (upd H a o) a y) : Frame K B G (upd H a o) σ (δ.set i (.deep a y (gs ++ hs))) := by
  have ndS : (ads (.deep a x gs)).Nodup := by
    have nd := F.nd
    obtain ⟨l1, l2, e2⟩ := List.append_of_mem (List.mem_of_getElem? e)
    rw [e2, owned_append, owned_cons] at nd
    exact (List.nodup_append.mp (List.nodup_append.mp nd).2.1).1
  have ndC := List.nodup_cons.mp ndS
  have ha : a ∈ owned δ := owned_getA e List.mem_cons_self
  have hne : ∀ b ∈ hs.map Prod.fst, b ≠ a := fun b hb z => (hn b hb).2.2 (by rw [z]; exact ha)
  refine frame_any F e List.mem_cons_self (fun c n => upd_ne n) (fun ov q => ⟨q.1, h, fun w hw => ?_⟩) ?_ fun c hc => ?_
  · rcases List.mem_append.mp hw with z | z
    · exact (q.2.2 w z).mono (Ex.refl G) (upd_ne fun e => ndC.1 (by rw [← e]; exact List.mem_map_of_mem z))
    · exact (hg w z).mono (Ex.refl G) (upd_ne (hne _ (List.mem_map_of_mem z)))
  · show (a :: (gs ++ hs).map Prod.fst).Nodup
    rw [List.map_append]
    refine List.nodup_cons.mpr ⟨fun z => ?_, List.nodup_append.mpr ⟨ndC.2, hd, fun b hb b' hb' e2 => ?_⟩⟩
    · rcases List.mem_append.mp z with z | z
      · exact ndC.1 z
      · exact hne a z rfl
    · exact (hn b' hb').2.2 (by rw [← e2]; exact owned_getA e (List.mem_cons_of_mem _ hb))
  · have hc' : c ∈ a :: (gs ++ hs).map Prod.fst := hc
    rw [List.map_append] at hc'
    rcases List.mem_cons.mp hc' with z | z
    · exact .inl (by rw [z]; exact List.mem_cons_self)
    · rcases List.mem_append.mp z with z | z
      · exact .inl (List.mem_cons_of_mem _ z)
      · exact .inr (hn c z)
/-- xs.append(a new object) -/
theorem we_appG (h : WE c false te δ fun r1 δ1 => ∃ i a, r1 = .bor i a ∧ (∃ ds gs, δ1[i]? = some (.deep a (.lst ds) gs)) ∧ WE c false ta δ1 fun r2 δ2 => ∃ b hs ds gs, NewO r2 b hs ∧ δ2[i]? = some (.deep a (.lst ds) gs) ∧ ds.length < 100000 ∧
    Φ (.d .non) (δ2.set i (.deep a (.lst (ds ++ [.ptr b])) (gs ++ hs)))) : WE c false (tBM c.K "list" rAppend te (tCons ta tNil)) δ Φ := by
  intro B G H σ Q F x k
  refine h B G H σ _ F x fun r1 δ1 v1 G1 H1 w1 e1 F1 rv1 p1 => ?_
  obtain ⟨i, a, er, ⟨ds0, gs0, hd0⟩, w1⟩ := w1
  subst er
  obtain ⟨ev, _⟩ := rv1
  subst ev
  obtain ⟨xs0, hx0, _⟩ := at_lst F1 (at_deep hd0)
  refine ⟨.inl ⟨rfl, xs0, SqL.of hx0⟩, ?_⟩
  refine w1 B G1 H1 σ _ F1 (c.mono _ _ _ e1 x) fun r2 δ2 v2 G2 H2 w2 e2 F2 rv2 p2 => ?_
  obtain ⟨b, hs, ds, gs, hn, hd, hl, q⟩ := w2
  obtain ⟨ev, g1, g2, g3⟩ := newO_rv hn rv2
  subst ev
  obtain ⟨xs, hx, hr⟩ := at_lst F2 (at_deep hd)
  refine ⟨a, xs, _, rfl, rfl, hx, by rw [reps_length hr, sizeLine_eq]; omega, ?_⟩
  have hp : Rep c.K G2 (.ptr b) (.ref b) := by unfold Rep; rfl
  exact k _ _ _ G2 _ q (e1.trans e2) (frame_addG F2 hd g1 g2 g3 ⟨_, upd_same, reps_append hr (reps_one hp)⟩) (rep_non (K := c.K) (G := G2)) fun z => nomatch z
/-- things, some of them new objects of one's own -/
def WAg (c : Cd) (p : Bool) (tr : TA) (δ : List Sl) (Φ : List D → List (Addr × D) → List Sl → Prop) : Prop :=
  ∀ (B G H : Hp) (σ : L2.St) (Q : List V → Hp → Prop), Frame c.K B G H σ δ → c.xr B G →
    (∀ ds gs δ' vs G' H', Φ ds gs δ' → Ex G G' → Frame c.K B G' H' σ δ' → Reps c.K G' ds vs → OwnG c.K G' H' gs → (∀ b ∈ gs.map Prod.fst, B b = none ∧ G' b = none ∧ b ∉ owned δ') → (gs.map Prod.fst).Nodup → (p = true → δ' = δ ∧ Ex H H') → Q vs H') → tr σ H Q
theorem wag_nil {Φ : List D → List (Addr × D) → List Sl → Prop} (q : Φ [] [] δ) : WAg c p tNil δ Φ := fun B G H σ Q F _ k =>
  k [] [] δ [] G H q (Ex.refl G) F reps_nil (fun _ h => by cases h) (fun _ h => by cases h) List.nodup_nil fun _ => ⟨rfl, Ex.refl H⟩
theorem wag_d {Φ : List D → List (Addr × D) → List Sl → Prop} (h : WE c p te δ fun r δ1 => ∃ x, frz r = .d x ∧ WAg c p tr δ1 fun ds gs δ2 => Φ (x :: ds) gs δ2) : WAg c p (tCons te tr) δ Φ := by
  intro B G H σ Q F xr k
  refine h B G H σ _ F xr fun r δ1 v G1 H1 w e1 F1 rv p1 => ?_
  obtain ⟨x, hx, w⟩ := w
  obtain ⟨G1', e1', F1', rw1⟩ := rv.weak F1
  rw [hx] at rw1
  refine w B G1' H1 σ _ F1' (c.mono _ _ _ (e1.trans e1') xr) fun ds gs δ2 vs G2 H2 q e2 F2 hr hg hn hd p2 => ?_
  exact k (x :: ds) gs δ2 (v :: vs) G2 H2 q ((e1.trans e1').trans e2) F2 (reps_cons (Rep.mono e2 (show Rep c.K G1' x v from rw1)) hr) hg hn hd fun hp => ⟨(p2 hp).1.trans (p1 hp).1, (p1 hp).2.trans (p2 hp).2⟩
/-- new objects are kept while something else is evaluated -/
theorem frame_keep {K : PySem.W.Frag} {B G H : Hp} {σ : L2.St} {hs : List (Addr × D)} (F : Frame K B G H σ δ) (hg : OwnG K G H hs) (hn : ∀ b ∈ hs.map Prod.fst, B b = none ∧ G b = none ∧ b ∉ owned δ) :
    ∃ B', Ex B B' ∧ (∀ b ∈ hs.map Prod.fst, B' b = H b) ∧ (∀ b, b ∉ hs.map Prod.fst → B' b = B b) ∧ Frame K B' G H σ δ := by
  classical
  let B' : Hp := fun b => if b ∈ hs.map Prod.fst then H b else B b
  have b1 : ∀ b, b ∈ hs.map Prod.fst → B' b = H b := fun b hb => if_pos hb
  have b2 : ∀ b, b ∉ hs.map Prod.fst → B' b = B b := fun b hb => if_neg hb
  refine ⟨B', fun b o h => ?_, b1, b2, fun b o h => ?_, F.exG, fun b => ?_, F.sl, fun a ha => ⟨?_, (F.own a ha).2⟩, F.nd⟩
  · rw [b2 b (fun hb => by rw [(hn b hb).1] at h; cases h)]; exact h
  · by_cases hb : b ∈ hs.map Prod.fst
    · rw [b1 b hb] at h; exact h
    · rw [b2 b hb] at h; exact F.exB b o h
  · by_cases hb : b ∈ hs.map Prod.fst
    · exact .inr (.inl (hn b hb).2.1)
    · rw [b2 b hb]; exact F.dis b
  · rw [b2 a (fun hb => (hn a hb).2.2 ha)]; exact (F.own a ha).1
theorem frame_unkeep {K : PySem.W.Frag} {B B' G G' H H' : Hp} {σ : L2.St} {δ' : List Sl} {hs : List (Addr × D)} (hg : OwnG K G H hs) (hn : ∀ b ∈ hs.map Prod.fst, B b = none) (b1 : ∀ b ∈ hs.map Prod.fst, B' b = H b) (b2 : ∀ b, b ∉ hs.map Prod.fst → B' b = B b) (eG : Ex G G') (F' : Frame K B' G' H' σ δ') :
    Frame K B G' H' σ δ' ∧ OwnG K G' H' hs ∧ ∀ b ∈ hs.map Prod.fst, B b = none ∧ G' b = none ∧ b ∉ owned δ' := by
  have eB : Ex B B' := fun b o h => by rw [b2 b (fun hb => by rw [hn b hb] at h; cases h)]; exact h
  have none : ∀ b, B' b = none → B b = none := fun b h => by
    by_cases hb : b ∈ hs.map Prod.fst
    · exact hn b hb
    · rw [← b2 b hb]; exact h
  have ob : ∀ b ∈ hs.map Prod.fst, ∃ o, B' b = some o ∧ H b = some o ∧ ∀ xs, o ≠ .tup xs := fun b hb => by
    obtain ⟨w, hw, e⟩ := List.mem_map.mp hb
    subst e
    obtain ⟨o, ho, n⟩ := (hg w hw).obj
    exact ⟨o, (b1 _ hb).trans ho, ho, n⟩
  refine ⟨⟨eB.trans F'.exB, F'.exG, fun b => ?_, F'.sl, fun a ha => ⟨none a (F'.own a ha).1, (F'.own a ha).2⟩, F'.nd⟩, fun w hw => ?_, fun b hb => ⟨hn b hb, ?_, fun z => ?_⟩⟩
  · rcases F'.dis b with q | q | q
    · exact .inl (none b q)
    · exact .inr (.inl q)
    · exact .inr (.inr q)
  · obtain ⟨o, h1, h2, _⟩ := ob w.1 (List.mem_map_of_mem hw)
    exact (hg w hw).mono eG ((F'.exB _ _ h1).trans h2.symm)
  · obtain ⟨o, h1, h2, n⟩ := ob b hb
    exact F'.disN h1 n
  · obtain ⟨o, h1, h2, n⟩ := ob b hb
    rw [(F'.own b z).1] at h1
    cases h1
theorem wag_o {Φ : List D → List (Addr × D) → List Sl → Prop} (h : WE c p te δ fun r δ1 => ∃ b hs, NewO r b hs ∧ WAg (c0 c.K) p tr δ1 fun ds gs δ2 => Φ (.ptr b :: ds) (hs ++ gs) δ2) : WAg c p (tCons te tr) δ Φ := by
  intro B G H σ Q F xr k
  refine h B G H σ _ F xr fun r δ1 v G1 H1 w e1 F1 rv p1 => ?_
  obtain ⟨b, hs, hn, w⟩ := w
  obtain ⟨ev, g1, g2, g3⟩ := newO_rv hn rv
  subst ev
  obtain ⟨B', eB, b1, b2, F1'⟩ := frame_keep F1 g1 g2
  refine w B' G1 H1 σ _ F1' trivial fun ds gs δ2 vs G2 H2 q e2 F2 hr hg hn' hd p2 => ?_
  obtain ⟨F2', hg2, hn2⟩ := frame_unkeep g1 (fun b hb => (g2 b hb).1) b1 b2 e2 F2
  have hp : Rep c.K G2 (.ptr b) (.ref b) := by unfold Rep; rfl
  have notin : ∀ a ∈ gs.map Prod.fst, a ∉ hs.map Prod.fst := fun a ha hb => by
    have z := (hn' a ha).1
    rw [b1 a hb] at z
    obtain ⟨w, hw, e⟩ := List.mem_map.mp hb
    subst e
    obtain ⟨o, ho⟩ := (g1 w hw).there
    rw [ho] at z
    cases z
  refine k (.ptr b :: ds) (hs ++ gs) δ2 (.ref b :: vs) G2 H2 q (e1.trans e2) F2' (reps_cons hp hr) (fun w hw => ?_) (fun a ha => ?_) ?_ fun hp => ⟨(p2 hp).1.trans (p1 hp).1, (p1 hp).2.trans (p2 hp).2⟩
  · rcases List.mem_append.mp hw with z | z
    · exact hg2 w z
    · exact hg w z
  · rw [List.map_append] at ha
    rcases List.mem_append.mp ha with z | z
    · exact hn2 a z
    · have y := hn' a z
      exact ⟨by rw [← b2 a (notin a z)]; exact y.1, y.2.1, y.2.2⟩
  · rw [List.map_append]
    exact List.nodup_append.mpr ⟨g3, hd, fun a ha a' ha' e => notin a' ha' (by rw [← e]; exact ha)⟩
theorem we_lstG (h : WAg c p tr δ fun ds gs δ1 => ds.length ≤ 100000 ∧ ∀ a, Φ (.deep a (.lst ds) gs) δ1) : WE c p (tLst tr) δ Φ := by
  intro B G H σ Q F xr k
  refine h B G H σ _ F xr fun ds gs δ1 vs G1 H1 w e1 F1 hr hg hn hd p1 => ?_
  obtain ⟨hl, w⟩ := w
  refine ⟨by rw [reps_length hr, sizeLine_eq]; omega, fun a ha => ?_⟩
  obtain ⟨n1, n2, n3⟩ := F1.fresh ha
  have hne : ∀ b ∈ gs.map Prod.fst, b ≠ a := fun b hb z => by
    obtain ⟨o, ho⟩ := hg.there hb
    rw [z, ha] at ho
    cases ho
  refine k _ δ1 _ G1 _ (w a) e1 (F1.ex (Ex.new ha)) ⟨rfl, ⟨vs, upd_same, hr⟩, fun q hq => (hg q hq).mono (Ex.refl G1) (upd_ne (hne _ (List.mem_map_of_mem hq))), fun b hb => ?_, ?_⟩ fun hp => ⟨(p1 hp).1, (p1 hp).2.trans (Ex.new ha)⟩
  · rcases List.mem_cons.mp hb with z | z
    · subst z; exact ⟨n1, n2, n3⟩
    · exact hn b z
  · exact List.nodup_cons.mpr ⟨fun z => hne a z rfl, hd⟩
end
end DL

/-! DL31: d.update(d2), xs.reverse(). -/
namespace DL
open PySem PySem.Spec PyProof.Rows L2
open Evl (Ex)
def rUpdA : V → List V → Hp → VK → Prop := fun x xs H Q => ∃ (a b : Addr) (kvs more : List (Key × V)), x = .ref a ∧ xs = [.ref b] ∧ a ≠ b ∧ H a = some (.dK kvs) ∧ Rd H b (.dK more) ∧ kvs.length + more.length ≤ sizeLine ∧ (mergeK kvs more).length ≤ sizeLine ∧
  Q .non (upd H a (.dK (mergeK kvs more)))
theorem mt_updateA {X : Cx} : MtR X "dict.update" rUpdA := by
  intro pins s σ H x xs v us Q I rx rxs h
  obtain ⟨a, b, kvs, more, rfl, rfl, hab, ha, hb, hl, hl2, q⟩ := h
  cases rx
  obtain ⟨u1, rfl, r1⟩ := vals1 rxs
  cases r1
  obtain ⟨z, hd, vs, rel, dd⟩ := dk_of I.hok ha
  obtain ⟨z2, hd2, vs2, rel2, dd2⟩ := dk_rd I.hok hb
  refine call_meetsIn PySem.F.slot_dict_update dd.typeIs PySem.F.entry_dict_update (PySem.F.args_dict_update_2 _ _) (meets_dict_update (mixKind X.prog X.w) a b hab hd2) ⟨vs, vs2, dd, dd2, by rw [← rel.length, ← rel2.length]; exact hl, fun h' dd' _ hs => ?_⟩
  have he : ∃ q, h'.get? a = some q := let ⟨q, _, _, hq, _⟩ := dd'; ⟨q, hq⟩
  exact ⟨.non, _, d_write (t' := s.toks) I (by rw [ha]; exact True.intro) hs he (dk_new hl2 hd (KV.merge rel2 rel) dd'), rfl, q⟩
theorem putD_len (kvs : List (Key × D)) (k : Key) (v : D) : (putD kvs k v).length ≤ kvs.length + 1 := by
  unfold putD
  split
  · rw [List.length_map]; omega
  · simp
theorem mergeD_len : ∀ (more kvs : List (Key × D)), (mergeD kvs more).length ≤ kvs.length + more.length
  | [], kvs => Nat.le_refl _
  | q :: more, kvs => by
    have h := mergeD_len more (putD kvs q.1 q.2)
    have h2 := putD_len kvs q.1 q.2
    show (mergeD (putD kvs q.1 q.2) more).length ≤ _
    rw [List.length_cons]
    omega
section
variable {c : Cd} {δ : List Sl} {te : TE} {tr : TA} {Φ : R → List Sl → Prop}
theorem we_update (h : WE c false te δ fun r1 δ1 => ∃ i a, r1 = .bor i a ∧ (∃ ds, δ1[i]? = some (.own a (.dct ds))) ∧ WA c false tr δ1 fun rs δ2 => ∃ (ds es : List (Key × D)) (r2 : R), rs = [r2] ∧ view δ2 r2 = some (.dct es) ∧ (∀ j, r2 ≠ .bor j a) ∧ δ2[i]? = some (.own a (.dct ds)) ∧ ds.length + es.length ≤ 100000 ∧
    ∀ δ3, δ3 = δ2.set i (.own a (.dct (mergeD ds es))) → Φ (.d .non) δ3) : WE c false (tBM c.K "dict" rUpdA te tr) δ Φ := by
  intro B G H σ Q F x k
  refine h B G H σ _ F x fun r1 δ1 v1 G1 H1 w1 e1 F1 rv1 p1 => ?_
  obtain ⟨i, a, er, ⟨ds0, hd0⟩, w1⟩ := w1
  subst er
  obtain ⟨ev, _⟩ := rv1
  subst ev
  obtain ⟨xs0, hx0, _⟩ := own_dct F1 hd0
  refine ⟨.inr (.inr (.inl ⟨rfl, .inl ⟨xs0, hx0⟩⟩)), ?_⟩
  refine w1 B G1 H1 σ _ F1 (c.mono _ _ _ e1 x) fun rs δ2 vs G2 H2 w2 e2 F2 rv2 p2 => ?_
  obtain ⟨ds, es, r2, er2, hv, hne, hd, hl, w2⟩ := w2
  subst er2
  obtain ⟨v2, vr, e3, h1, h2⟩ := rv2
  have e4 : vr = [] := h2
  subst e4
  subst e3
  obtain ⟨xs, hx, hr⟩ := own_dct F2 hd
  obtain ⟨b, zs, eb, hb, hz⟩ := view_dct F2 h1 hv
  subst eb
  have hab : a ≠ b := fun e => by
    subst e
    cases r2 with
    | d y =>
      have e' : y = .dct es := Option.some.inj hv
      subst e'
      have h1' : Rep c.K G2 (.dct es) (.ref a) := h1
      unfold Rep at h1'
      obtain ⟨a', _, ea, hg, _⟩ := h1'
      cases ea
      have n := (F2.own a (owned_get hd)).2
      rcases hg with hg | ⟨o, hg⟩ <;> (rw [n] at hg; cases hg)
    | own a' y => exact h1.elim
    | deep a' y gs => cases hv
    | bor j a' =>
      have e5 : V.ref a = .ref a' := h1
      cases e5
      exact hne j rfl
  have l1 := repK_len hr
  have l2 := repK_len hz
  have hm := repK_merge hz hr
  have l3 := repK_len hm
  have l4 := mergeD_len es ds
  refine ⟨a, b, xs, zs, rfl, rfl, hab, hx, hb, by rw [sizeLine_eq]; omega, by rw [sizeLine_eq]; omega, ?_⟩
  exact k _ _ _ G2 _ (w2 _ rfl) (e1.trans e2) (frame_mut F2 hd ⟨_, upd_same, hm⟩) (rep_non (K := c.K) (G := G2)) fun z => nomatch z
theorem mt_reverseA {X : Cx} : MtR X "list.reverse" rReverse := mt_reverse
theorem we_reverse0 (h : WE c false te δ fun r1 δ1 => ∃ i a ds, r1 = .bor i a ∧ δ1[i]? = some (.own a (.lst ds)) ∧ ∀ δ3, δ3 = δ1.set i (.own a (.lst ds.reverse)) → Φ (.d .non) δ3) : WE c false (tBM0 c.K "list" rReverse te) δ Φ :=
  we_mu0 mu_reverse (we_mono h fun r1 δ1 ⟨i, a, ds, e1, e2, q⟩ => ⟨i, a, ds, e1, e2, rfl, q _ rfl⟩)
end
end DL

/-! DL32: == of data without truths and dicts: they are one, or not. -/
namespace DL
open PySem PySem.Spec PyProof.Rows L2
open Evl (Ex)
mutual
def pure0 : D → Bool
  | .non => true
  | .int _ => true
  | .str s => PyData.strOk s
  | .lst xs => pure0s xs
  | .tup xs => pure0s xs
  | _ => false
def pure0s : List D → Bool
  | [] => true
  | x :: xs => pure0 x && pure0s xs
end
mutual
theorem pure_py : ∀ x : D, pure0 x = true → ∃ d, py x = some d ∧ d.canLay0 = true ∧ d.depth = dpt x
  | .non, _ => ⟨_, rfl, rfl, rfl⟩
  | .int _, _ => ⟨_, rfl, rfl, rfl⟩
  | .str s, h => ⟨.str s, rfl, by unfold pure0 at h; unfold PyData.canLay0; exact h, rfl⟩
  | .lst xs, h => by
    obtain ⟨ds, h1, h2, h3⟩ := pures_py xs (by unfold pure0 at h; exact h)
    exact ⟨.list ds, by unfold py; rw [h1]; rfl, by unfold PyData.canLay0; exact h2, by unfold PyData.depth dpt; rw [h3]⟩
  | .tup xs, h => by
    obtain ⟨ds, h1, h2, h3⟩ := pures_py xs (by unfold pure0 at h; exact h)
    exact ⟨.tuple ds, by unfold py; rw [h1]; rfl, by unfold PyData.canLay0; exact h2, by unfold PyData.depth dpt; rw [h3]⟩
  | .bl _, h => by unfold pure0 at h; cases h
  | .ty _, h => by unfold pure0 at h; cases h
  | .ptr _, h => by unfold pure0 at h; cases h
  | .ro _, h => by unfold pure0 at h; cases h
  | .dct _, h => by unfold pure0 at h; cases h
  | .dcT _, h => by unfold pure0 at h; cases h
  | .obj _ _, h => by unfold pure0 at h; cases h
theorem pures_py : ∀ xs : List D, pure0s xs = true → ∃ ds, pys xs = some ds ∧ PyData.canLayAll0 ds = true ∧ PyData.depthAll ds = dpts xs
  | [], _ => ⟨[], rfl, rfl, rfl⟩
  | x :: xs, h => by
    unfold pure0s at h
    obtain ⟨h0, h1⟩ := Bool.and_eq_true_iff.mp h
    obtain ⟨d, a1, a2, a3⟩ := pure_py x h0
    obtain ⟨ds, b1, b2, b3⟩ := pures_py xs h1
    exact ⟨d :: ds, by unfold pys; rw [a1, b1]; rfl, by unfold PyData.canLayAll0; rw [a2, b2]; rfl, by unfold PyData.depthAll dpts; rw [a3, b3]⟩
end
mutual
theorem eqv_pure : ∀ (x y : D) (d e : PyData), pure0 x = true → pure0 y = true → py x = some d → py y = some e → (PyData.eqv d e = true ↔ x = y)
  | .non, y, d, e, hx, hy, h1, h2 => by
    unfold py at h1; cases h1
    cases y with
    | non => unfold py at h2; cases h2; simp [PyData.eqv]
    | int i => unfold py at h2; cases h2; simp [PyData.eqv]
    | str s => unfold py at h2; cases h2; simp [PyData.eqv]
    | lst ys => unfold py at h2; cases q : pys ys with
      | none => rw [q] at h2; cases h2
      | some es => rw [q] at h2; cases h2; simp [PyData.eqv]
    | tup ys => unfold py at h2; cases q : pys ys with
      | none => rw [q] at h2; cases h2
      | some es => rw [q] at h2; cases h2; simp [PyData.eqv]
    | _ => unfold pure0 at hy; cases hy
  | .int i, y, d, e, hx, hy, h1, h2 => by
    unfold py at h1; cases h1
    cases y with
    | non => unfold py at h2; cases h2; simp [PyData.eqv]
    | int j => unfold py at h2; cases h2; simp [PyData.eqv]
    | str s => unfold py at h2; cases h2; simp [PyData.eqv]
    | lst ys => unfold py at h2; cases q : pys ys with
      | none => rw [q] at h2; cases h2
      | some es => rw [q] at h2; cases h2; simp [PyData.eqv]
    | tup ys => unfold py at h2; cases q : pys ys with
      | none => rw [q] at h2; cases h2
      | some es => rw [q] at h2; cases h2; simp [PyData.eqv]
    | _ => unfold pure0 at hy; cases hy
  | .str s, y, d, e, hx, hy, h1, h2 => by
    unfold py at h1; cases h1
    cases y with
    | non => unfold py at h2; cases h2; simp [PyData.eqv]
    | int j => unfold py at h2; cases h2; simp [PyData.eqv]
    | str t => unfold py at h2; cases h2; simp [PyData.eqv]
    | lst ys => unfold py at h2; cases q : pys ys with
      | none => rw [q] at h2; cases h2
      | some es => rw [q] at h2; cases h2; simp [PyData.eqv]
    | tup ys => unfold py at h2; cases q : pys ys with
      | none => rw [q] at h2; cases h2
      | some es => rw [q] at h2; cases h2; simp [PyData.eqv]
    | _ => unfold pure0 at hy; cases hy
  | .lst xs, y, d, e, hx, hy, h1, h2 => by
    unfold py at h1
    cases q0 : pys xs with
    | none => rw [q0] at h1; cases h1
    | some ds =>
    rw [q0] at h1; cases h1
    cases y with
    | non => unfold py at h2; cases h2; simp [PyData.eqv]
    | int j => unfold py at h2; cases h2; simp [PyData.eqv]
    | str t => unfold py at h2; cases h2; simp [PyData.eqv]
    | lst ys => unfold py at h2; cases q : pys ys with
      | none => rw [q] at h2; cases h2
      | some es =>
        rw [q] at h2; cases h2
        have ih := eqvs_pure xs ys ds es (by unfold pure0 at hx; exact hx) (by unfold pure0 at hy; exact hy) q0 q
        show PyData.eqv (.list ds) (.list es) = true ↔ _
        unfold PyData.eqv
        rw [ih]
        exact ⟨fun h => by rw [h], fun h => by cases h; rfl⟩
    | tup ys => unfold py at h2; cases q : pys ys with
      | none => rw [q] at h2; cases h2
      | some es => rw [q] at h2; cases h2; simp [PyData.eqv]
    | _ => unfold pure0 at hy; cases hy
  | .tup xs, y, d, e, hx, hy, h1, h2 => by
    unfold py at h1
    cases q0 : pys xs with
    | none => rw [q0] at h1; cases h1
    | some ds =>
    rw [q0] at h1; cases h1
    cases y with
    | non => unfold py at h2; cases h2; simp [PyData.eqv]
    | int j => unfold py at h2; cases h2; simp [PyData.eqv]
    | str t => unfold py at h2; cases h2; simp [PyData.eqv]
    | tup ys => unfold py at h2; cases q : pys ys with
      | none => rw [q] at h2; cases h2
      | some es =>
        rw [q] at h2; cases h2
        have ih := eqvs_pure xs ys ds es (by unfold pure0 at hx; exact hx) (by unfold pure0 at hy; exact hy) q0 q
        show PyData.eqv (.tuple ds) (.tuple es) = true ↔ _
        unfold PyData.eqv
        rw [ih]
        exact ⟨fun h => by rw [h], fun h => by cases h; rfl⟩
    | lst ys => unfold py at h2; cases q : pys ys with
      | none => rw [q] at h2; cases h2
      | some es => rw [q] at h2; cases h2; simp [PyData.eqv]
    | _ => unfold pure0 at hy; cases hy
  | .bl _, _, _, _, h, _, _, _ => by unfold pure0 at h; cases h
  | .ty _, _, _, _, h, _, _, _ => by unfold pure0 at h; cases h
  | .ptr _, _, _, _, h, _, _, _ => by unfold pure0 at h; cases h
  | .ro _, _, _, _, h, _, _, _ => by unfold pure0 at h; cases h
  | .dct _, _, _, _, h, _, _, _ => by unfold pure0 at h; cases h
  | .dcT _, _, _, _, h, _, _, _ => by unfold pure0 at h; cases h
  | .obj _ _, _, _, _, h, _, _, _ => by unfold pure0 at h; cases h
theorem eqvs_pure : ∀ (xs ys : List D) (ds es : List PyData), pure0s xs = true → pure0s ys = true → pys xs = some ds → pys ys = some es → (PyData.eqvAll ds es = true ↔ xs = ys)
  | [], ys, ds, es, hx, hy, h1, h2 => by
    unfold pys at h1; cases h1
    cases ys with
    | nil => unfold pys at h2; cases h2; simp [PyData.eqvAll]
    | cons y ys =>
      unfold pys at h2
      cases q : py y with
      | none => rw [q] at h2; cases h2
      | some e0 =>
        rw [q] at h2
        cases q2 : pys ys with
        | none => rw [q2] at h2; cases h2
        | some er => rw [q2] at h2; cases h2; simp [PyData.eqvAll]
  | x :: xs, ys, ds, es, hx, hy, h1, h2 => by
    unfold pys at h1
    cases p1 : py x with
    | none => rw [p1] at h1; cases h1
    | some d0 =>
    rw [p1] at h1
    cases p2 : pys xs with
    | none => rw [p2] at h1; cases h1
    | some dr =>
    rw [p2] at h1
    cases h1
    cases ys with
    | nil => unfold pys at h2; cases h2; simp [PyData.eqvAll]
    | cons y ys =>
      unfold pys at h2
      cases q : py y with
      | none => rw [q] at h2; cases h2
      | some e0 =>
        rw [q] at h2
        cases q2 : pys ys with
        | none => rw [q2] at h2; cases h2
        | some er =>
          rw [q2] at h2
          cases h2
          unfold pure0s at hx hy
          obtain ⟨hx0, hx1⟩ := Bool.and_eq_true_iff.mp hx
          obtain ⟨hy0, hy1⟩ := Bool.and_eq_true_iff.mp hy
          have i1 := eqv_pure x y d0 e0 hx0 hy0 p1 q
          have i2 := eqvs_pure xs ys dr er hx1 hy1 p2 q2
          show PyData.eqvAll (d0 :: dr) (e0 :: er) = true ↔ _
          unfold PyData.eqvAll
          rw [Bool.and_eq_true_iff, i1, i2]
          exact ⟨fun h => by rw [h.1, h.2], fun h => by cases h; exact ⟨rfl, rfl⟩⟩
end
theorem dEq_p {f : Bool → Bool} {x y : D} {k : R → Prop} (h1 : pure0 x = true) (h2 : pure0 y = true) (h3 : dpt x ≤ 60) (h4 : dpt y ≤ 60) (t : x = y → k (.d (.bl (f true)))) (n : x ≠ y → k (.d (.bl (f false)))) : dEqF f x y k := by
  obtain ⟨d, a1, a2, a3⟩ := pure_py x h1
  obtain ⟨e, b1, b2, b3⟩ := pure_py y h2
  refine dEq_d a1 b1 (by unfold SeqAt.shaped; rw [a2, a3]; simp; omega) (by unfold SeqAt.shaped; rw [b2, b3]; simp; omega) ?_
  have iff := eqv_pure x y d e h1 h2 a1 b1
  cases q : PyData.eqv d e with
  | true => exact t (iff.mp q)
  | false => exact n fun z => by rw [iff.mpr z] at q; cases q
theorem pure0s_map {α : Type} {f : α → D} : ∀ {l : List α}, (∀ a ∈ l, pure0 (f a) = true) → pure0s (l.map f) = true
  | [], _ => rfl
  | a :: l, h => by
    rw [List.map_cons]
    unfold pure0s
    rw [h a List.mem_cons_self, pure0s_map fun b hb => h b (List.mem_cons_of_mem _ hb)]
    rfl
theorem dpts_map {α : Type} {f : α → D} {n : Nat} : ∀ {l : List α}, (∀ a ∈ l, dpt (f a) ≤ n) → dpts (l.map f) ≤ n
  | [], _ => by rw [List.map_nil]; unfold dpts; omega
  | a :: l, h => by
    rw [List.map_cons]
    unfold dpts
    have h1 := h a List.mem_cons_self
    have h2 := dpts_map (l := l) fun b hb => h b (List.mem_cons_of_mem _ hb)
    omega
end DL

/-! DL33: for over a list of one's own, which stays; what comes back with objects behind it, told as data. -/
namespace DL
open PySem PySem.Spec PyProof.Rows L2
open Evl (Ex)
section
variable {K : PySem.W.Frag} {B G G' H H' : Hp} {σ : St} {δ ε : List Sl}
theorem frame_moreD {a : Addr} {x : D} {gs : List (Addr × D)} (F : Frame K B G H σ δ) (h : OwnR K G H a x) (hg : OwnG K G H gs) (hO : ∀ b ∈ a :: gs.map Prod.fst, B b = none ∧ G b = none ∧ b ∉ owned δ) (nd : (a :: gs.map Prod.fst).Nodup) :
    Frame K B G H (σ ++ [some (.ref a)]) (δ ++ [.deep a x gs]) := by
  have e : owned (δ ++ [.deep a x gs]) = owned δ ++ (a :: gs.map Prod.fst) := by rw [owned_append, owned_cons]; simp [owned, ads]
  refine ⟨F.exB, F.exG, F.dis, F.sl.append ⟨_, _, rfl, ⟨rfl, h, hg⟩, rfl⟩, fun b hb => ?_, ?_⟩
  · rw [e] at hb
    rcases List.mem_append.mp hb with q | q
    · exact F.own b q
    · exact ⟨(hO b q).1, (hO b q).2.1⟩
  · rw [e]
    exact List.nodup_append.mpr ⟨F.nd, nd, fun b hb c hc z => (hO c hc).2.2 (by rw [← z]; exact hb)⟩
theorem frame_lessD {ov : Option V} {z : D} (hl : σ.length = δ.length) (F : Frame K B G H (σ ++ [ov]) (δ ++ [.d z])) : Frame K B G H σ δ ∧ ∃ v, ov = some v ∧ Rep K G z v := by
  obtain ⟨h1, h2⟩ := SlsR.split hl F.sl
  have eo : owned (δ ++ [.d z]) = owned δ := by rw [owned_append, owned_cons]; simp [owned, ads]
  refine ⟨⟨F.exB, F.exG, F.dis, h1, fun b hb => F.own b (by rw [eo]; exact hb), by have := F.nd; rw [eo] at this; exact this⟩, ?_⟩
  obtain ⟨ov', σr, e2, h3, _⟩ := h2
  cases e2
  exact h3
end
section
variable {c : Cd} {p : Bool} {δ : List Sl} {te : TE} {t : TS} {g : TG} {Φ : R → List Sl → Prop} {N Bk Ct : List Sl → Prop} {Rt : R → List Sl → Prop}
/-- what stands behind a thing that comes back is frozen from here on -/
theorem we_tellR (h : WE c p te δ fun r δ1 => ∃ a x gs z, r = .deep a x gs ∧ ((a :: gs.map Prod.fst).Nodup → Tells (.deep a x gs) z) ∧ Φ (.d z) δ1) : WE c p te δ Φ := by
  intro B G H σ Q F xr k
  refine h B G H σ Q F xr fun r δ' v G' H' w e F' rv pp => ?_
  obtain ⟨a, x, gs, z, er, ht, q⟩ := w
  subst er
  obtain ⟨ev, ho, hg, hO, nd⟩ := rv
  have hl := F'.sl.len
  obtain ⟨G1, e1, g1, g2, F1⟩ := frame_tell (z := z) (i := δ'.length) (s := .deep a x gs) (frame_moreD F' ho hg hO nd) (by simp) (ht nd)
  have es : (δ' ++ [Sl.deep a x gs]).set δ'.length (.d z) = δ' ++ [.d z] := by simp
  rw [es] at F1
  obtain ⟨F2, v2, e2, hr⟩ := frame_lessD hl F1
  cases e2
  rw [ev]
  exact k (.d z) δ' _ G1 H' q (e.trans e1) F2 hr pp
/-- what is one's own stands at unlike places -/
theorem w_nd (h : (owned δ).Nodup → W c t δ N Rt Bk Ct) : W c t δ N Rt Bk Ct := fun B G H σ D F => h F.nd B G H σ D F
theorem we_nd (h : (owned δ).Nodup → WE c p te δ Φ) : WE c p te δ Φ := fun B G H σ Q F => h F.nd B G H σ Q F
/-- for over a thing that stays as it is, be it one's own -/
theorem w_forA (h : WE c false te δ fun r δ1 => ∃ y ds, view δ1 r = some y ∧ itemsD y = some ds ∧ ∃ I : Nat → List Sl → Prop, I 0 δ1 ∧ (∀ j δ2, j ≤ ds.length → I j δ2 → view δ2 r = some y) ∧
    (∀ j d δ2, ds[j]? = some d → I j δ2 → WG c g (.d d) δ2 fun δ3 => W c t δ3 (I (j + 1)) Rt N (I (j + 1))) ∧ ∀ δ2, I ds.length δ2 → N δ2) : W c (tFor (iAny c.K te) g t) δ N Rt Bk Ct := by
  intro B G H σ Dd F x e
  refine h B G H σ _ F x fun r δ1 v G1 H1 w e1 F1 rv p1 => ?_
  obtain ⟨y, ds, hv, hi, I, i0, iat, it, iend⟩ := w
  have core : ∀ (J : It) (Gd : Hp → Prop) (Y : Nat → Hp → V → Hp → Prop) (G1' : Hp), Walk J ds.length Gd Y → Ex G1 G1' → Frame c.K B G1' H1 σ δ1 → (∀ j δ2 G2 H2 σ2, j ≤ ds.length → I j δ2 → Ex G1' G2 → Frame c.K B G2 H2 σ2 δ2 → Gd H2) →
      (∀ j δ2 G2 H2 σ2 y H3, j < ds.length → I j δ2 → Ex G1' G2 → Frame c.K B G2 H2 σ2 δ2 → Y j H2 y H3 → H3 = H2 ∧ ∃ d, ds[j]? = some d ∧ Rep c.K G2 d y) →
      ∃ Wv : Nat → Nat → St → Hp → Prop, (∃ m, Wv 0 m σ H1) ∧ ∀ i m σ H, Wv i m σ H → (J.stop i H ∧ Dd.nx σ H) ∨ (J.go i H ∧ ∃ N : St → Hp → Prop, (∀ σ' H', N σ' H' → ∃ m', m' < m ∧ Wv (i + 1) m' σ' H') ∧ ∀ x H', J.yld i H x H' → g x σ H' fun σ2 H2 => t { Dd with nx := N, ct := N, bk := Dd.nx } σ2 H2) := by
    intro J Gd Y G1' Wk e0 F0 hG hY
    refine for_it Wk (fun i σ' H' => ∃ δ' G', I i δ' ∧ Ex G1' G' ∧ Frame c.K B G' H' σ' δ') ⟨δ1, G1', i0, Ex.refl G1', F0⟩ (fun j σ' H' hj ⟨δ', G', hI, e2, F2⟩ => hG j δ' G' H' σ' hj hI e2 F2) (fun j y σ' H2 H3 hj pv yy => ?_) fun σ' H' ⟨δ', G', hI, e2, F2⟩ => e.nx δ' σ' G' H' (iend δ' hI) (e1.trans (e0.trans e2)) F2
    obtain ⟨δ', G', hI, e2, F2⟩ := pv
    obtain ⟨eH, d, hd, hrd⟩ := hY j δ' G' H2 σ' y H3 hj hI e2 F2 yy
    subst eH
    have e02 := e1.trans (e0.trans e2)
    refine it j d δ' hd hI B G' H3 σ' y _ F2 (c.mono _ _ _ e02 x) hrd fun δ3 σ3 G3 H3 hws e4 F4 => ?_
    have e5 := e2.trans e4
    have e6 := e1.trans (e0.trans e5)
    exact hws B G3 H3 σ3 _ F4 (c.mono _ _ _ e6 x) ⟨fun δ4 σ4 G4 H4 w e7 F5 => ⟨δ4, G4, w, e5.trans e7, F5⟩, fun r δ4 v σ4 G4 H4 w e7 F5 => e.rt r δ4 v σ4 G4 H4 w (e6.trans e7) F5, fun δ4 σ4 G4 H4 w e7 F5 => e.nx δ4 σ4 G4 H4 w (e6.trans e7) F5, fun δ4 σ4 G4 H4 w e7 F5 => ⟨δ4, G4, w, e5.trans e7, F5⟩⟩
  have dat : ∀ G1', Ex G1 G1' → Frame c.K B G1' H1 σ δ1 → Rep c.K G1' y v → iAny c.K (fun σ H Q => Q v H) σ H1 fun J H' => ∃ Wv : Nat → Nat → St → Hp → Prop, (∃ m, Wv 0 m σ H') ∧ ∀ i m σ H, Wv i m σ H → (J.stop i H ∧ Dd.nx σ H) ∨ (J.go i H ∧ ∃ N : St → Hp → Prop, (∀ σ' H', N σ' H' → ∃ m', m' < m ∧ Wv (i + 1) m' σ' H') ∧ ∀ x H', J.yld i H x H' → g x σ H' fun σ2 H2 => t { Dd with nx := N, ct := N, bk := Dd.nx } σ2 H2) := by
    intro G1' e0 F0 hr
    cases y with
    | lst ys =>
      cases hi
      unfold Rep at hr
      obtain ⟨a, xs, e2, h1, h2⟩ := hr
      refine .inl ⟨a, e2, ⟨xs, .inl (Rd.of (F0.exG _ _ h1))⟩, core _ _ _ G1' (by rw [← reps_length h2]; exact walk_list (K := c.K) (a := a) (xs := xs)) e0 F0 (fun j δ2 G2 H2 σ2 _ _ e3 F2 => sql (Rd.of (F2.exG _ _ (e3 _ _ h1)))) fun j δ2 G2 H2 σ2 z H3 _ _ e3 F2 (yy : YAt xs j H2 z H3) => ⟨yy.1, ?_⟩⟩
      obtain ⟨d, hd, hrd⟩ := reps_getV h2 yy.2
      exact ⟨d, hd, hrd.mono e3⟩
    | tup ys =>
      cases hi
      unfold Rep at hr
      obtain ⟨a, xs, e2, h1, h2⟩ := hr
      refine .inr (.inl ⟨a, e2, ⟨xs, SqT.of (F0.exG _ _ h1)⟩, core _ _ _ G1' (by rw [← reps_length h2]; exact walk_tup (K := c.K) (a := a) (xs := xs)) e0 F0 (fun j δ2 G2 H2 σ2 _ _ e3 F2 => SqT.of (F2.exG _ _ (e3 _ _ h1))) fun j δ2 G2 H2 σ2 z H3 _ _ e3 F2 (yy : YAt xs j H2 z H3) => ⟨yy.1, ?_⟩⟩)
      obtain ⟨d, hd, hrd⟩ := reps_getV h2 yy.2
      exact ⟨d, hd, hrd.mono e3⟩
    | str z =>
      cases hi
      have e2 : v = .str z := by unfold Rep at hr; exact hr
      have el : (signsD z).length = z.cps.size := by unfold signsD; simp
      refine .inr (.inr ⟨z, e2, core _ _ _ G1' (by rw [el]; exact walk_str) e0 F0 (fun _ _ _ _ _ _ _ _ _ => trivial) fun j δ2 G2 H2 σ2 u H3 _ _ e3 F2 (yy : H3 = H2 ∧ ∃ c, z.cps[j]? = some c ∧ u = .str ⟨#[c]⟩) => ⟨yy.1, ?_⟩⟩)
      obtain ⟨_, ch, hc, ey⟩ := yy
      refine ⟨.str ⟨#[ch]⟩, ?_, ?_⟩
      · unfold signsD
        rw [List.getElem?_map, Array.getElem?_toList, hc]
        rfl
      · rw [ey]; exact rep_str
    | _ => cases hi
  cases r with
  | d z =>
    cases hv
    exact dat G1 (Ex.refl G1) F1 rv
  | own a z =>
    cases hv
    obtain ⟨G1', e1', F1', rw1⟩ := rv.weak F1
    exact dat G1' e1' F1' rw1
  | deep a z gs => cases hv
  | bor i a =>
    obtain ⟨ev, _⟩ := rv
    subst ev
    have ow : ∀ j δ2 G2 H2 σ2, j ≤ ds.length → I j δ2 → Frame c.K B G2 H2 σ2 δ2 → OwnR c.K G2 H2 a y := fun j δ2 G2 H2 σ2 hj hI F2 => (view_own F2 (iat j δ2 hj hI)).1
    cases y with
    | lst ys =>
      cases hi
      have own : ∀ j δ2 G2 H2 σ2, j ≤ ds.length → I j δ2 → Frame c.K B G2 H2 σ2 δ2 → ∃ xs, H2 a = some (.lst xs) ∧ Reps c.K G2 ds xs := ow
      refine .inl ⟨a, rfl, ?_, ?_⟩
      · obtain ⟨xs, hx, _⟩ := own 0 δ1 G1 H1 σ (Nat.zero_le _) i0 F1
        exact ⟨xs, SqL.of hx⟩
      have Wk : Walk (Itl c.K a) ds.length (fun H => ∃ xs, SqL c.K H a xs ∧ xs.length = ds.length) (fun i H x H' => H' = H ∧ ∀ xs, SqL c.K H a xs → xs[i]? = some x) :=
        ⟨fun i _ hi ⟨xs, q, l⟩ => ⟨xs, xs[i]'(by omega), q, by simp [show i < xs.length by omega]⟩, fun _ ⟨xs, q, l⟩ => ⟨xs, q, by omega⟩, fun _ _ _ _ _ _ y => y⟩
      refine core _ _ _ G1 Wk (Ex.refl G1) F1 (fun j δ2 G2 H2 σ2 hj hI _ F2 => ?_) fun j δ2 G2 H2 σ2 z H3 hj hI _ F2 yy => ⟨yy.1, ?_⟩
      · obtain ⟨xs, hx, hr⟩ := own j δ2 G2 H2 σ2 hj hI F2
        exact ⟨xs, SqL.of hx, reps_length hr⟩
      · obtain ⟨xs, hx, hr⟩ := own j δ2 G2 H2 σ2 (Nat.le_of_lt hj) hI F2
        exact reps_getV hr (yy.2 xs (SqL.of hx))
    | dct kds => cases hi
    | dcT kds => cases hi
    | obj C fs => cases hi
    | _ => exact (ow 0 δ1 G1 H1 σ (Nat.zero_le _) i0 F1).elim
end
/-- a thing, as data or as one's own -/
inductive Arg (x : D) : Sl → Prop
  | d : Arg x (.d x)
  | o (b : Addr) : Arg x (.own b x)
end DL

/-! DL34: list(range(..)); a walk over a dict with tuple keys that a path tells. -/
namespace DL
open PySem PySem.Spec PyProof.Rows L2
open Evl (Ex)
section
variable {c : Cd} {p : Bool} {δ : List Sl} {ta : TE} {Φ : R → List Sl → Prop}
theorem reps_rg {K : PySem.W.Frag} {G : Hp} (lo : Int) : ∀ l : List Nat, Reps K G (l.map fun (i : Nat) => D.int (lo + (i : Int))) (l.map fun (i : Nat) => V.int (lo + (i : Nat)))
  | [] => reps_nil
  | i :: l => reps_cons rep_int (reps_rg lo l)
theorem we_listRg (h : WE c p ta δ fun r δ1 => ∃ j : Int, r = .d (.int j) ∧ 0 ≤ j ∧ j ≤ 100000 ∧ ∀ a, Φ (.own a (.lst (rangeD 0 j.toNat))) δ1) : WE c p (tLstRg (tRg1 ta)) δ Φ := by
  intro B G H σ Q F x k
  refine h B G H σ _ F x fun r δ1 v G1 H1 w e1 F1 rv p1 => ?_
  obtain ⟨j, er, h0, h1, w⟩ := w
  subst er
  have ev : v = .int j := by have z : Rep c.K G1 (.int j) v := rv; unfold Rep at z; exact z
  refine ⟨j, ev, RgOk.of_le (Int.le_refl 0) (by omega) (by omega) h0, fun q hq => ?_⟩
  have hrep : Reps c.K G1 (rangeD 0 j.toNat) (rgV 0 j) := by
    unfold rangeD rgV
    rw [Int.sub_zero]
    exact reps_rg 0 _
  exact k _ δ1 _ G1 _ (w q) e1 (F1.ex (Ex.new hq)) (rv_newL F1 hq hrep) fun hp => ⟨(p1 hp).1, (p1 hp).2.trans (Ex.new hq)⟩
end
/-! ### for k in e: e a dict with tuple keys -/
def keyTD (k : List Key) : D := .tup (k.map keyD)
theorem reps_keys {K : PySem.W.Frag} {G : Hp} : ∀ k : List Key, Reps K G (k.map keyD) (k.map kV)
  | [] => reps_nil
  | k :: ks => reps_cons (keyD_rep k) (reps_keys ks)
theorem repT_ln {K : PySem.W.Frag} {G : Hp} : ∀ {ds : List (List Key × D)} {vs : List (List Key × V)}, RepT K G ds vs → vs.length = ds.length
  | [], vs, h => by unfold RepT at h; subst h; rfl
  | (k, d) :: ds, vs, h => by
    unfold RepT at h
    obtain ⟨v, vr, e1, _, h2⟩ := h
    subst e1
    simp [repT_ln h2]
theorem repT_getV {K : PySem.W.Frag} {G : Hp} : ∀ {ds : List (List Key × D)} {vs : List (List Key × V)} {i : Nat} {kv : List Key × V}, RepT K G ds vs → vs[i]? = some kv → ∃ x, ds[i]? = some (kv.1, x) ∧ Rep K G x kv.2
  | [], vs, i, kv, h, e => by unfold RepT at h; subst h; simp at e
  | (k, d) :: ds, vs, 0, kv, h, e => by
    unfold RepT at h
    obtain ⟨v, vr, e1, h1, _⟩ := h
    subst e1
    have e2 : (k, v) = kv := by simpa using e
    subst e2
    exact ⟨d, rfl, h1⟩
  | (k, d) :: ds, vs, i + 1, kv, h, e => by
    unfold RepT at h
    obtain ⟨v, vr, e1, _, h2⟩ := h
    subst e1
    obtain ⟨w, h3, h4⟩ := repT_getV (i := i) h2 (by simpa using e)
    exact ⟨w, by simpa using h3, h4⟩
/-- a path that tells a dict with tuple keys, locked or not -/
def PthT (K : PySem.W.Frag) (te : TE) (δ : List Sl) (tds : List (List Key × D)) : Prop := ∀ (B G H : Hp) (σ : L2.St), Frame K B G H σ δ → ∃ (a : Addr) (kvs : List (List Key × V)), Rd G a (.dT kvs) ∧ RepT K G tds kvs ∧
  ∀ (G1 H1 : Hp), LE G G1 → Frame K B G1 H1 σ δ → ∀ Q : VK, Q (.ref a) H1 → te σ H1 Q
section
variable {te : TE} {δ : List Sl} {tds : List (List Key × D)} {g : TG} {t : TS} {E : En}
theorem ws_forT {c c' : Cd} (hK : c'.K = c.K) (hx : ∀ B G, c'.xr B G) (hP : PthT c.K te δ tds) (h : ∃ I : Nat → List Sl → Prop, I 0 δ ∧
    (∀ j k x δ2, tds[j]? = some (k, x) → I j δ2 → WG c' g (.d (keyTD k)) δ2 fun δ3 => WS c' t δ3 { E with nx := I (j + 1), ct := I (j + 1), bk := E.nx }) ∧ ∀ δ2, I tds.length δ2 → E.nx δ2) : WS c (tLk (tFor (iKeys te) g t)) δ E := by
  obtain ⟨K, xr, mo⟩ := c
  obtain ⟨K', xr', mo'⟩ := c'
  cases hK
  obtain ⟨I, i0, it, iend⟩ := h
  have core : ∀ (a : Addr) (o : Obj) (kvs : List (List Key × V)) (B G H : Hp) (σ : L2.St) (D : Ends), Frame K B G H σ δ → G a = some (.frz o (.dT kvs)) → RepT K G tds kvs → (∀ Q : VK, Q (.ref a) H → te σ H Q) → EnR (c0 K) B G E D → tFor (iKeys te) g t D σ H := by
    intro a o kvs B G H σ D F hg hr hp e
    refine hp _ ⟨a, o, rfl, .inr ⟨kvs, F.exG a _ hg, ?_⟩⟩
    have ln := repT_ln hr
    refine for_it walk_keysT (fun i σ' H' => ∃ δ' G', I i δ' ∧ Ex G G' ∧ Frame K B G' H' σ' δ') ⟨δ, G, i0, Ex.refl G, F⟩ (fun j σ' H' _ ⟨δ', G', _, e2, F2⟩ => F2.exG a _ (e2 a _ hg)) (fun j y σ' H2 H3 hj pv yy => ?_) fun σ' H' ⟨δ', G', hI, e2, F2⟩ => e.nx δ' σ' G' H' (iend δ' (by rw [← ln]; exact hI)) e2 F2
    obtain ⟨δ', G', hI, e2, F2⟩ := pv
    obtain ⟨eH, k, v, q, hkv, ey, hq⟩ := yy
    subst eH ey
    obtain ⟨x, hd, _⟩ := repT_getV hr hkv
    obtain ⟨G3, eG, gL, F3⟩ := F2.tups [q] fun b hb => by
      rw [List.mem_singleton.mp hb]
      exact ⟨_, hq⟩
    have hrep : Rep K G3 (keyTD k) (.ref q) := by
      show Rep K G3 (.tup (k.map keyD)) (.ref q)
      unfold Rep
      exact ⟨q, _, rfl, (gL q (List.mem_singleton.mpr rfl)).trans hq, reps_keys k⟩
    have e3 := e2.trans eG
    refine it j k x δ' hd hI B G3 H3 σ' _ _ F3 (hx B G3) hrep fun δ3 σ3 G4 H4 hws e4 F4 => ?_
    have e5 := e3.trans e4
    exact hws B G4 H4 σ3 _ F4 (hx B G4) ⟨fun δ4 σ4 G5 H5 w e6 F5 => ⟨δ4, G5, w, e5.trans e6, F5⟩, fun r δ4 v σ4 G5 H5 w e6 F5 => e.rt r δ4 v σ4 G5 H5 w (e5.trans e6) F5, fun δ4 σ4 G5 H5 w e6 F5 => e.nx δ4 σ4 G5 H5 w (e5.trans e6) F5, fun δ4 σ4 G5 H5 w e6 F5 => ⟨δ4, G5, w, e5.trans e6, F5⟩⟩
  intro B G H σ D F x e
  obtain ⟨a, kvs, hr, hk, hp⟩ := hP B G H σ F
  rcases hr with hg | ⟨o, hg⟩
  · refine .inl ⟨a, .dT kvs, F.exG a _ hg, trivial, fun od => ?_⟩
    have F1 := F.relock (.inr ⟨_, rfl⟩) hg (.inl rfl) (w := .frz od (.dT kvs)) (.inr ⟨od, rfl⟩)
    have le1 : LE G (upd G a (.frz od (.dT kvs))) := le_upd (.inr ⟨_, rfl⟩) hg (.inl rfl) (.inr ⟨od, rfl⟩)
    have gb : ∀ {G' : Hp}, Ex (upd G a (.frz od (.dT kvs))) G' → G' a = some (.frz od (.dT kvs)) := fun e => e a _ upd_same
    have back : ∀ {G' : Hp}, Ex (upd G a (.frz od (.dT kvs))) G' → Ex G (upd G' a (.dT kvs)) := fun e b u h => by
      by_cases q : b = a
      · subst q; rw [upd_same, ← h, hg]
      · rw [upd_ne q]; exact e b u (by rw [upd_ne q]; exact h)
    have fb : ∀ {G' H' : Hp} {σ' : L2.St} {δ' : List Sl}, Ex (upd G a (.frz od (.dT kvs))) G' → Frame K B G' H' σ' δ' → Frame K B (upd G' a (.dT kvs)) (upd H' a (.dT kvs)) σ' δ' := fun e F' => F'.relock (.inr ⟨_, rfl⟩) (gb e) (.inr ⟨od, rfl⟩) (.inl rfl)
    refine core a od kvs B _ _ σ _ F1 upd_same (hk.le le1) (fun Q q => hp _ _ le1 F1 Q q) ⟨fun δ' σ' G' H' w e1 F' => ⟨F'.exG a _ (gb e1), e.nx δ' σ' _ _ w (back e1) (fb e1 F')⟩, fun r δ' v σ' G' H' w e1 F' rv => ⟨F'.exG a _ (gb e1), e.rt r δ' v σ' _ _ w (back e1) (fb e1 F') ?_⟩, fun δ' σ' G' H' w e1 F' => ⟨F'.exG a _ (gb e1), e.bk δ' σ' _ _ w (back e1) (fb e1 F')⟩, fun δ' σ' G' H' w e1 F' => ⟨F'.exG a _ (gb e1), e.ct δ' σ' _ _ w (back e1) (fb e1 F')⟩⟩
    exact rv.le (le_upd (.inr ⟨_, rfl⟩) (gb e1) (.inr ⟨od, rfl⟩) (.inl rfl)) (fun b q => upd_ne q) (fun b q => upd_ne q) (by rw [gb e1]; rfl)
  · exact .inr (core a o kvs B G H σ D F hg hk (fun Q q => hp G H (LE.of (Ex.refl G)) F Q q) ⟨e.nx, e.rt, e.bk, e.ct⟩)
end
/-- d[f], d a slot's dict -/
theorem pth_ix {K : PySem.W.Frag} {δ : List Sl} {i : Nat} {kds : List (Key × D)} {f : Str} {tds : List (List Key × D)} (hi : δ[i]? = some (.d (.dct kds))) (hk : DL.getD kds (.inr f) = some (.dcT tds)) : PthT K (tOp (rIxB K) (tVar i) (tC (.str f))) δ tds := by
  intro B G H σ F
  obtain ⟨aw, vs, hs, hr, hkv⟩ := var_lk F hi
  rcases repK_val (k := .inr f) hkv with ⟨q1, _⟩ | ⟨y, v, q1, q2, q3⟩
  · rw [hk] at q1; cases q1
  · rw [hk] at q1
    cases q1
    unfold Rep at q3
    obtain ⟨a, kvs, ev, h1, h2⟩ := q3
    subst ev
    refine ⟨a, kvs, h1, h2, fun G1 H1 le F1 Q q => ?_⟩
    have r1 : Rd G1 aw (.dK vs) := le.rd (fun _ _ z => nomatch z) hr
    exact ⟨.ref aw, hs, .inr ⟨aw, .ref a, rfl, .inl ⟨vs, .inr f, Evl.ex_rd F1.exG r1, rfl, q2.symm⟩, q⟩⟩
/-- a slot's dict -/
theorem pth_var {K : PySem.W.Frag} {δ : List Sl} {i : Nat} {tds : List (List Key × D)} (hi : δ[i]? = some (.d (.dcT tds))) : PthT K (tVar i) δ tds := by
  intro B G H σ F
  obtain ⟨ov, e1, v, e2, hr⟩ := F.get hi
  unfold Rep at hr
  obtain ⟨a, kvs, ev, h1, h2⟩ := hr
  subst e2 ev
  exact ⟨a, kvs, h1, h2, fun G1 H1 _ _ Q q => ⟨.ref a, e1, q⟩⟩
section
variable {c : Cd} {te : TE} {δ : List Sl} {tds : List (List Key × D)} {g : TG} {t : TS} {N Bk Ct : List Sl → Prop} {Rt : R → List Sl → Prop}
theorem w_forT (hx : ∀ B G, c.xr B G) (hP : PthT c.K te δ tds) (h : ∃ I : Nat → List Sl → Prop, I 0 δ ∧
    (∀ j k x δ2, tds[j]? = some (k, x) → I j δ2 → WG c g (.d (keyTD k)) δ2 fun δ3 => W c t δ3 (I (j + 1)) Rt N (I (j + 1))) ∧ ∀ δ2, I tds.length δ2 → N δ2) : W c (tLk (tFor (iKeys te) g t)) δ N Rt Bk Ct :=
  ws_forT (c' := c) rfl hx hP h
end
end DL

/-! DL35: d.pop(k), dict(d), d with tuple keys. -/
namespace DL
open PySem PySem.Spec PyProof.Rows L2
open Evl (Ex)
section
variable {K : Type} [DecidableEq K] {prog : Program} {w : World} {knd : HeapKind prog w K} {A : Around} {E : Value → Shared → Prop} {s : Shared}
theorem meetsPop1 {d b : Addr} {k : K} :
    MeetsIn prog w (Builtin.«dict.pop» ⟨[.ref d, .ref b], []⟩) (fun A R s => ∃ xs p, knd.room A.in1 ∧ knd.is s.heap k b ∧ s.heap.DictOfH knd d xs ∧ xs.length ≤ sizeLine ∧
      atKey xs k = some p ∧ ∀ h' tk, h'.DictOfH knd d (DT.dropH xs k) → Heap.SameBut d s.heap h' → R (.ok (.ret p.2)) { s with heap := h', toks := tk }) :=
  .of_wp fun A R s ⟨xs, p0, hu, hkey, hm, hsz, hat, hsome⟩ => by
    obtain ⟨o, es, ep, ho, hc, hdat, he, his, hn⟩ := id hm
    have hes : es.size = xs.length := size_of_entries he
    have hpart : (keyPart (Value.ref b)).isSome = false := rfl
    unfold Builtin.«dict.pop»
    refine wpAny_bind ?_
    unfold Builtin.Dict.keyAndDefault
    refine wpAny_bind (wpAny_notOrdered_dict hm.typeIs ?_)
    show wpAny _ _ (pure (d, Value.ref b, none)) _ _ s
    refine wpAny_pure ?_
    simp only [hpart, Bool.false_eq_true, if_false]
    refine wpAny_bind (wpAny_dictEntries ho hdat (wpAny_bind (wpAny_pure ?_)))
    cases hem : es.isEmpty with
    | true =>
      have h0 : xs = [] := by
        have z : es.size = 0 := by simpa using hem
        exact List.length_eq_zero_iff.mp (by omega)
      rw [h0] at hat
      cases hat
    | false =>
      simp only [Bool.false_eq_true, if_false]
      refine wpAny_bind (DT.takeH hu hkey hm hsz (fun hno => ?_) fun p e hp hev h' hm' hs' => ?_)
      · rw [hno] at hat; cases hat
      · simp only [Option.isNone_some, Bool.false_eq_true, if_false]
        rw [hp] at hat
        cases hat
        exact wpAny_bind (wpAny_letGo (wpAny_pure ⟨e.val, rfl, by rw [hev]; exact hsome h' _ hm' hs'⟩))
end
def rPopT1 : V → List V → Hp → VK → Prop := fun x xs H Q => ∃ (a : Addr) (kvs : List (List L2.Key × V)) (k : List L2.Key) (b : Addr) (v : V), x = .ref a ∧ xs = [.ref b] ∧ H a = some (.dT kvs) ∧ H b = some (.tup (k.map kV)) ∧
  valV kvs k = some v ∧ Q v (upd H a (.dT (dropK kvs k)))
theorem mt_popT1 {X : Cx} (hu : X.A.units + 1 < cLine) : MtR X "dict.pop" rPopT1 := by
  intro pins s σ H x xs v us Q I rx rxs h
  obtain ⟨a, kvs, k, b, v0, rfl, rfl, ha, hb, hv, q1⟩ := h
  cases rx
  obtain ⟨u1, rfl, r1⟩ := vals1 rxs
  cases r1
  obtain ⟨z, hd, xs', rel, dd⟩ := dt_of I.hok ha
  have hz : xs'.length ≤ sizeLine := by rw [← Paired.length rel]; exact z
  have r := rel.val k
  rw [hv] at r
  obtain ⟨p, ep, rv⟩ : ∃ p, atKey xs' k = some p ∧ RelV v0 p.2 := by
    cases ev : atKey xs' k with
    | none =>
      rw [ev] at r
      exact (show False from r).elim
    | some p =>
      rw [ev] at r
      exact ⟨p, rfl, r⟩
  refine call_meetsIn PySem.F.slot_dict_pop dd.typeIs PySem.F.entry_dict_pop (PySem.F.args_dict_pop_2 _ _) (meetsPop1 (knd := tupleKind (mixKind X.prog X.w)) (k := k))
    ⟨xs', p, tupleKind_room_in1 hu, key_of I.hok hb, dd, hz, ep, fun h' tk dd' hs => ?_⟩
  obtain ⟨o, es, ep', hq, h2, h3, h4, _, h5⟩ := dd'
  have I2 : Inv X pins σ (upd H a (.dT (dropK kvs k))) { s with heap := h', toks := tk } :=
    d_write I (by rw [ha]; exact True.intro) hs ⟨o, hq⟩ ⟨Nat.le_trans (dropK_le kvs k) z, hd, _, (L2.DX.KT_drop k rel).keeps (fun c ys ec => (by rw [upd_ne (ne_of ec ha (fun z => nomatch z))]; exact ec)), o, es, ep', hq, h2, h3, h4, h5⟩
  show EP X pins σ Q p.2 _
  exact ⟨v0, _, I2, rv, q1⟩
def dropT (kds : List (List Key × D)) (k : List Key) : List (List Key × D) := kds.filter fun kv => decide (kv.1 ≠ k)
theorem repT_drop {K : PySem.W.Frag} {G : Hp} {k : List Key} : ∀ {ds : List (List Key × D)} {vs : List (List Key × V)}, RepT K G ds vs → RepT K G (dropT ds k) (dropK vs k)
  | [], vs, h => by unfold RepT at h; subst h; unfold RepT; rfl
  | (k', d) :: ds, vs, h => by
    unfold RepT at h
    obtain ⟨v, vr, e, h1, h2⟩ := h
    subst e
    have ih := repT_drop (k := k) h2
    by_cases q : k' = k
    · have z1 : dropT ((k', d) :: ds) k = dropT ds k := List.filter_cons_of_neg (by simp [q])
      have z2 : dropK ((k', v) :: vr) k = dropK vr k := List.filter_cons_of_neg (by simp [q])
      rw [z1, z2]
      exact ih
    · have z1 : dropT ((k', d) :: ds) k = (k', d) :: dropT ds k := List.filter_cons_of_pos (by simp [q])
      have z2 : dropK ((k', v) :: vr) k = (k', v) :: dropK vr k := List.filter_cons_of_pos (by simp [q])
      rw [z1, z2]
      unfold RepT
      exact ⟨v, _, rfl, h1, ih⟩
section
variable {c : Cd} {δ : List Sl} {te ta : TE} {Φ : R → List Sl → Prop}
theorem we_popT (h : WE c false te δ fun r1 δ1 => ∃ i a, r1 = .bor i a ∧ (∃ ds, δ1[i]? = some (.own a (.dcT ds))) ∧ WE c false ta δ1 fun r2 δ2 => ∃ y key kds z, view δ2 (frz r2) = some y ∧ dKeyT y = some key ∧ δ2[i]? = some (.own a (.dcT kds)) ∧ getT kds key = some z ∧
    ∀ δ3, δ3 = δ2.set i (.own a (.dcT (dropT kds key))) → Φ (.d z) δ3) : WE c false (tBM c.K "dict" rPopT1 te (tCons ta tNil)) δ Φ := by
  intro B G H σ Q F x k
  refine h B G H σ _ F x fun r1 δ1 v1 G1 H1 w1 e1 F1 rv1 p1 => ?_
  obtain ⟨i, a, er, ⟨ds0, hd0⟩, w1⟩ := w1
  subst er
  obtain ⟨ev, _⟩ := rv1
  subst ev
  obtain ⟨xs0, hx0, _⟩ := own_dcT F1 hd0
  refine ⟨.inr (.inr (.inl ⟨rfl, .inr ⟨xs0, hx0⟩⟩)), ?_⟩
  refine w1 B G1 H1 σ _ F1 (c.mono _ _ _ e1 x) fun r2 δ2 v2 G2 H2 w2 e2 F2 rv2 p2 => ?_
  obtain ⟨y, key, kds, z, hv, hk, hd, hg, w2⟩ := w2
  obtain ⟨G2', e2', F2', rw2⟩ := rv2.weak F2
  obtain ⟨b, ev2, hb⟩ := dKeyT_view F2' rw2 hv hk
  subst ev2
  obtain ⟨xs, hx, hr⟩ := own_dcT F2' hd
  rcases repT_val (k := key) hr with ⟨q1, _⟩ | ⟨w, v, q1, q2, q3⟩
  · rw [hg] at q1; cases q1
  · rw [hg] at q1
    cases q1
    refine ⟨a, xs, key, b, v, rfl, rfl, hx, hb, q2, ?_⟩
    exact k _ _ v G2' _ (w2 _ rfl) (e1.trans (e2.trans e2')) (frame_mut F2' hd ⟨_, upd_same, repT_drop hr⟩) q3 fun hp => nomatch hp
end
end DL

/-! DL36: a comprehension that makes own objects; rows of rows. -/
namespace DL
open PySem PySem.Spec PyProof.Rows L2
open Evl (Ex)
section
variable {c : Cd} {p : Bool} {δ : List Sl} {te ta tb tx ty : TE} {tt : TT} {g : TG}
/-- a comprehension, pure but for the new objects that it makes -/
theorem we_lcG {wi : TI} {vs : List Nat} {Φ : R → List Sl → Prop} (h : WI c p wi δ fun ds δ1 => nonOwn δ1 vs ∧ ds.length ≤ 100000 ∧ ∃ I : Nat → List D → List (Addr × D) → Prop, I 0 [] [] ∧
    (∀ (i : Nat) (d : DL.D) (acc : List D) (gs : List (Addr × D)), ds[i]? = some d → acc.length ≤ i → (gs.map Prod.fst).Nodup → I i acc gs → WGc g c.K d (wipeS δ1 vs) vs fun ε1 => WT (c0 c.K) true tt ε1 fun b ε2 => (b = true → WE (c0 c.K) true te ε2 fun r _ => ∃ b hs, NewO r b hs ∧ I (i + 1) (acc ++ [.ptr b]) (gs ++ hs)) ∧ (b = false → I (i + 1) acc gs)) ∧
    ∀ a acc gs, (a :: gs.map Prod.fst).Nodup → I ds.length acc gs → Φ (.deep a (.lst acc) gs) δ1) : WE c p (tLc wi g tt te vs) δ Φ := by
  intro B G H σ Q F x k
  refine h B G H σ _ F x fun ds δ1 J G1 H1 w e1 F1 p1 ww => ?_
  obtain ⟨hno, hlen, I, hI0, step, w⟩ := w
  obtain ⟨Gd, Y, W, hG, hY⟩ := ww
  intro A hA
  obtain ⟨hB, hG1, hO⟩ := F1.fresh hA
  refine lc_it W (fun i H' => ∃ G' acc gs, Ex G1 G' ∧ Ex H1 H' ∧ Frame c.K B G' H' σ δ1 ∧ OwnG c.K G' H' ((A, .lst acc) :: gs) ∧ (∀ b ∈ A :: gs.map Prod.fst, B b = none ∧ G' b = none ∧ b ∉ owned δ1) ∧ (A :: gs.map Prod.fst).Nodup ∧ acc.length ≤ i ∧ I i acc gs)
    ⟨G1, [], [], Ex.refl G1, Ex.new hA, F1.ex (Ex.new hA), fun q hq => ?_, fun b hb => ?_, by simp, Nat.le_refl _, hI0⟩
    (fun i H' _ ⟨G', acc, gs, e2, _, F2, _⟩ => hG H' (e2.trans F2.exG)) (fun i y H2 H3 hi pv yy => ?_) fun H' pv => ?_
  · rw [List.mem_singleton.mp hq]
    exact ⟨[], upd_same, reps_nil⟩
  · rw [List.mem_singleton.mp hb]
    exact ⟨hB, hG1, hO⟩
  · obtain ⟨G', acc, gs, e2, eH, F2, hg, hn, hd, hal, hI⟩ := pv
    have go : ∀ (d : DL.D) (G2 H2 : Hp), ds[i]? = some d → Ex G1 G2 → Ex H1 H2 → Frame c.K B G2 H2 σ δ1 → OwnG c.K G2 H2 ((A, .lst acc) :: gs) → (∀ b ∈ A :: gs.map Prod.fst, B b = none ∧ G2 b = none ∧ b ∉ owned δ1) → Rep c.K G2 d y → g y (wipe σ vs) H2 fun σ2 H2 => wipe σ2 vs = wipe σ vs ∧ tt σ2 H2 fun b H3 =>
        if b = true then te σ2 H3 fun y H4 => ∃ ac, H4 A = some (.lst ac) ∧ ac.length < sizeLine ∧ ∃ G' acc gs, Ex G1 G' ∧ Ex H1 (upd H4 A (.lst (ac ++ [y]))) ∧ Frame c.K B G' (upd H4 A (.lst (ac ++ [y]))) σ δ1 ∧ OwnG c.K G' (upd H4 A (.lst (ac ++ [y]))) ((A, .lst acc) :: gs) ∧ (∀ b ∈ A :: gs.map Prod.fst, B b = none ∧ G' b = none ∧ b ∉ owned δ1) ∧ (A :: gs.map Prod.fst).Nodup ∧ acc.length ≤ i + 1 ∧ I (i + 1) acc gs
        else ∃ G' acc gs, Ex G1 G' ∧ Ex H1 H3 ∧ Frame c.K B G' H3 σ δ1 ∧ OwnG c.K G' H3 ((A, .lst acc) :: gs) ∧ (∀ b ∈ A :: gs.map Prod.fst, B b = none ∧ G' b = none ∧ b ∉ owned δ1) ∧ (A :: gs.map Prod.fst).Nodup ∧ acc.length ≤ i + 1 ∧ I (i + 1) acc gs := by
      intro d G2 H2 hdd e3 eH3 F3 hg3 hn3 hrep
      have Fw := frame_wipe F3 vs
      have hnw : ∀ b ∈ ((A, D.lst acc) :: gs).map Prod.fst, B b = none ∧ G2 b = none ∧ b ∉ owned (wipeS δ1 vs) := fun b hb => by
        obtain ⟨q1, q2, q3⟩ := hn3 b hb
        exact ⟨q1, q2, fun z => q3 ((wipeS_sub vs).subset z)⟩
      obtain ⟨B', eB, b1, b2, Fb⟩ := frame_keep Fw hg3 hnw
      refine step i d acc gs hdd hal (List.nodup_cons.mp hd).2 hI _ G2 H2 (wipe σ vs) y _ Fb hrep fun ε1 σ1 hw og Fg ew => ⟨ew.trans (wipe_wipe σ vs), ?_⟩
      refine hw _ G2 H2 σ1 _ Fg trivial fun b ε2 G4 H4 w4 e4 F4 p4 => ?_
      obtain ⟨eε4, eH4⟩ := p4 rfl
      have own4 : owned ε2 = owned δ1 := by rw [eε4, og, wipeS_own hno]
      -- the outer frame, from an inner one
      have out : ∀ {G5 H5 : Hp} {ε5 : List Sl}, owned ε5 = owned δ1 → Ex G2 G5 → Ex H2 H5 → Frame c.K B' G5 H5 σ1 ε5 → Frame c.K B G5 H5 σ δ1 ∧ OwnG c.K G5 H5 ((A, .lst acc) :: gs) ∧ ∀ b ∈ A :: gs.map Prod.fst, B b = none ∧ G5 b = none ∧ b ∉ owned δ1 := fun {G5 H5 ε5} oe e5 eH5 F5 => by
        obtain ⟨F6, g6, n6⟩ := frame_unkeep hg3 (fun b hb => (hnw b hb).1) b1 b2 e5 F5
        refine ⟨(F3.ex eH5).more e5 F5.exG F6.dis (fun a ha => (F5.own a (by rw [oe]; exact ha)).2), g6, fun b hb => ?_⟩
        obtain ⟨q1, q2, q3⟩ := n6 b hb
        exact ⟨q1, q2, by rw [← oe]; exact q3⟩
      cases b with
      | false =>
        rw [if_neg Bool.false_ne_true]
        obtain ⟨F6, g6, n6⟩ := out own4 e4 eH4 F4
        exact ⟨G4, acc, gs, e3.trans e4, eH3.trans eH4, F6, g6, n6, hd, by omega, w4.2 rfl⟩
      | true =>
        rw [if_pos rfl]
        refine w4.1 rfl _ G4 H4 σ1 _ F4 trivial fun r ε5 v5 G5 H5 w5 e5 F5 rv5 p5 => ?_
        obtain ⟨eε5, eH5⟩ := p5 rfl
        obtain ⟨b5, hs, hN, hI5⟩ := w5
        have own5 : owned ε5 = owned δ1 := by rw [eε5]; exact own4
        obtain ⟨F6, g6, n6⟩ := out own5 (e4.trans e5) (eH4.trans eH5) F5
        obtain ⟨ev, g7, n7, d7⟩ := newO_rv hN rv5
        subst ev
        obtain ⟨xs, hx, hr⟩ := g6 (A, .lst acc) List.mem_cons_self
        -- the new ones are none of those kept
        have hnk : ∀ a ∈ hs.map Prod.fst, a ∉ A :: gs.map Prod.fst := fun a ha hb => by
          have z := (n7 a ha).1
          rw [b1 a hb] at z
          obtain ⟨q, hq, e⟩ := List.mem_map.mp (show a ∈ ((A, D.lst acc) :: gs).map Prod.fst from hb)
          subst e
          obtain ⟨o, ho⟩ := (hg3 q hq).there
          rw [ho] at z
          cases z
        have hnA : ∀ b ∈ (gs ++ hs).map Prod.fst, b ≠ A := fun b hb e => by
          rw [List.map_append] at hb
          rcases List.mem_append.mp hb with z | z
          · exact (List.nodup_cons.mp hd).1 (by rw [← e]; exact z)
          · exact hnk b z (by rw [e]; exact List.mem_cons_self)
        have hOD : ∀ a ∈ owned δ1, a ≠ A := fun a ha z => hO (by rw [← z]; exact ha)
        have dis6 : G5 A = none := (n6 A List.mem_cons_self).2.1
        have hp : Rep c.K G5 (.ptr b5) (.ref b5) := by unfold Rep; rfl
        have hout : Ex H1 (upd H5 A (.lst (xs ++ [.ref b5]))) := Ex.mut ((eH3.trans eH4).trans eH5) hA
        have hlt : i < ds.length := by
          rcases Nat.lt_or_ge i ds.length with q | q
          · exact q
          · rw [List.getElem?_eq_none q] at hdd; cases hdd
        refine ⟨xs, hx, (by rw [reps_length hr, sizeLine_eq]; omega), G5, acc ++ [.ptr b5], gs ++ hs, (e3.trans e4).trans e5, hout, ?_, fun q hq => ?_, fun b hb => ?_, ?_, by rw [List.length_append]; simp only [List.length_singleton]; omega, hI5⟩
        · refine ⟨fun b o e => ?_, fun b o e => ?_, F6.dis, F6.sl.ex (Ex.refl G5) (fun a ha => upd_ne (hOD a ha)), F6.own, F6.nd⟩
          · by_cases q : b = A
            · subst q; rw [hB] at e; cases e
            · rw [upd_ne q]; exact F6.exB b o e
          · by_cases q : b = A
            · subst q; rw [dis6] at e; cases e
            · rw [upd_ne q]; exact F6.exG b o e
        · rcases List.mem_cons.mp hq with z | z
          · subst z
            exact ⟨xs ++ [.ref b5], upd_same, reps_append hr (reps_one hp)⟩
          · have hne := hnA q.1 (List.mem_map_of_mem z)
            rcases List.mem_append.mp z with z | z
            · exact (g6 q (List.mem_cons_of_mem _ z)).mono (Ex.refl G5) (upd_ne hne)
            · exact (g7 q z).mono (Ex.refl G5) (upd_ne hne)
        · rcases List.mem_cons.mp hb with z | z
          · subst z; exact n6 _ List.mem_cons_self
          · rw [List.map_append] at z
            rcases List.mem_append.mp z with z | z
            · exact n6 b (List.mem_cons_of_mem _ z)
            · obtain ⟨q1, q2, q3⟩ := n7 b z
              refine ⟨?_, q2, by rw [← own5]; exact q3⟩
              rw [← b2 b (hnk b z)]; exact q1
        · rw [List.map_append]
          refine List.nodup_cons.mpr ⟨fun z => hnA A (by rw [List.map_append]; exact z) rfl, List.nodup_append.mpr ⟨(List.nodup_cons.mp hd).2, d7, fun a ha b hb e => hnk b hb (by rw [← e]; exact List.mem_cons_of_mem _ ha)⟩⟩
    rcases hY i H2 y H3 hi yy with ⟨q1, d, hdd, hrep⟩ | ⟨T, o, d, hT, q1, hdd, hrep⟩
    · subst q1
      exact go d G' H3 hdd e2 eH F2 hg hn (hrep.mono e2)
    · subst q1
      have hT' := (F2.fresh hT).2.1
      have hne : ∀ b ∈ A :: gs.map Prod.fst, b ≠ T := fun b hb z => by
        obtain ⟨q, hq, e⟩ := List.mem_map.mp (show b ∈ ((A, D.lst acc) :: gs).map Prod.fst from hb)
        obtain ⟨o, ho⟩ := (hg q hq).there
        rw [e, z, hT] at ho
        cases ho
      refine go d (upd G' T o) _ hdd (e2.trans (Ex.new hT')) (eH.trans (Ex.new hT)) (F2.laid hT) (fun q hq => (hg q hq).ex (Ex.new hT') (Ex.new hT)) (fun b hb => ?_) (hrep G' e2 hT')
      obtain ⟨q1, q2, q3⟩ := hn b hb
      exact ⟨q1, by rw [upd_ne (hne b hb)]; exact q2, q3⟩
  · obtain ⟨G', acc, gs, e2, eH, F2, hg, hn, hd, hal, hI⟩ := pv
    exact k _ δ1 _ G' H' (w A acc gs hd hI) (e1.trans e2) F2 ⟨rfl, hg _ List.mem_cons_self, fun q hq => hg q (List.mem_cons_of_mem _ hq), hn, hd⟩ fun hp => ⟨(p1 hp).1, (p1 hp).2.trans eH⟩
/-! rows of rows, a slot's own -/
theorem we_mat {Φ : R → List Sl → Prop} {i : Nat} {a : Addr} {ps : List D} {gs : List (Addr × D)} (hi : δ[i]? = some (.deep a (.lst ps) gs)) (h : WE c p tx δ fun r1 δ1 => δ1 = δ ∧ ∃ j b xs, r1 = .d (.int j) ∧ atI ps j = some (.ptr b) ∧ b ≠ a ∧ gs.lookup b = some (.lst xs) ∧
    WE c p ty δ fun r2 δ2 => δ2 = δ ∧ ∃ k x, r2 = .d (.int k) ∧ atI xs k = some x ∧ Φ (.d x) δ) : WE c p (tOp (rIxB c.K) (tOp (rIxB c.K) (tVar i) tx) ty) δ Φ := by
  refine we_op opd_ixC (we_gh (we_op opd_ixC (we_var (i := i) (r := .bor i a) (by unfold rd; rw [hi]) (we_mono h fun r1 δ1 ⟨e, j, b, xs, e1, e2, e3, e4, w⟩ => ?_))))
  subst e e1
  have hA : At δ1 i b (.lst xs) := at_in hi e3 e4
  exact ⟨_, _, view_deep hi, rfl, dIxC_l e2 ⟨b, i, .lst xs, rfl, hA, we_mono w fun r2 δ2 ⟨e, k, x, e5, e6, q⟩ => by subst e e5; exact ⟨_, _, hA, rfl, dIxC_l e6 q⟩⟩⟩
theorem wg_setM {Φ : List Sl → Prop} {i : Nat} {a : Addr} {ps : List D} {gs : List (Addr × D)} {r : R} {z : D} (hr : frz r = .d z) (hi : δ[i]? = some (.deep a (.lst ps) gs)) (h : WE c false tx δ fun r1 δ1 => δ1 = δ ∧ ∃ j b xs, r1 = .d (.int j) ∧ atI ps j = some (.ptr b) ∧ b ≠ a ∧ gs.lookup b = some (.lst xs) ∧
    WE c false ty δ fun r2 δ2 => δ2 = δ ∧ ∃ k kk, r2 = .d (.int k) ∧ ixN xs.length k = some kk ∧ ∀ δ3, δ3 = δ.set i (.deep a (.lst ps) (setG gs b (.lst (xs.set kk z)))) → Φ δ3) : WG c (gSub (tOp (rIxB c.K) (tVar i) tx) ty rSetB) r δ Φ := by
  refine wg_setV ⟨z, hr, we_gh (we_op opd_ixC (we_var (i := i) (r := .bor i a) (by unfold rd; rw [hi]) (we_mono h fun r1 δ1 ⟨e, j, b, xs, e1, e2, e3, e4, w⟩ => ?_)))⟩
  subst e e1
  have hA : At δ1 i b (.lst xs) := at_in hi e3 e4
  exact ⟨_, _, view_deep hi, rfl, dIxC_l e2 ⟨b, i, .lst xs, rfl, hA, i, b, rfl, we_mono w fun r2 δ2 ⟨e, k, kk, e5, e6, q⟩ => by subst e e5; exact .inl ⟨_, _, _, rfl, hA, e6, q _ (upV_in hi e3)⟩⟩⟩
end
end DL

/-! DL37: s.upper(); any thing among texts. -/
namespace PySem.SeqAt
open Builtin
section
variable {A : Around} {s : Shared}
theorem str_declines_dict (b : Str) (u : Tok) (l : Addr) (es : Array DictEntry) (ep : Nat) (dd : Option Addr) (sl : Array (Option Value)) :
    Meets (Builtin.«str.__eq__» ⟨[.str b u, .ref l], []⟩) (fun _ R s => s.heap.get? l = some { cls := .type "dict", dict := dd, data := .dict es ep, slots := sl } ∧ R (.ok (.ret .notImplemented)) s) :=
  .of_wp fun prog w A R s h => by obtain ⟨hp, g, d, tk, os⟩ := s; obtain ⟨hl, h⟩ := h; wp_walk using wpAny_load hl; exact ⟨_, rfl, h⟩
theorem dict_declines_str (b : Str) (u : Tok) (l : Addr) (es : Array DictEntry) (ep : Nat) (dd : Option Addr) (sl : Array (Option Value)) :
    Meets (Builtin.«dict.__eq__» ⟨[.ref l, .str b u], []⟩) (fun _ R s => s.heap.get? l = some { cls := .type "dict", dict := dd, data := .dict es ep, slots := sl } ∧ R (.ok (.ret .notImplemented)) s) :=
  .of_wp fun prog w A R s h => by
    obtain ⟨hl, h⟩ := h
    show wpAny _ _ (Builtin.Dict.dictSlotArgs "__eq__" ⟨[.ref l, .str b u], []⟩ >>= _) _ _ s
    refine wpAny_bind ?_
    unfold Builtin.Dict.dictSlotArgs Builtin.Dict.notOrdered
    show wpAny _ _ (pure ((Value.ref l, Value.str b u) : Value × Value)) _ _ s
    refine wpAny_pure ?_
    show wpAny _ _ (isInstance (.str b u) (.type "dict") >>= _) _ _ s
    refine wpAny_bind (wpAny_isInstance (T := "str") (typeIs_str s b u) F.sub_str_dict ?_)
    wp_walk
    exact ⟨_, rfl, h⟩
theorem RcAt.str_dict {l : Addr} {o : Obj} {es : Array DictEntry} {ep : Nat} (b : Str) (u : Tok) (ho : s.heap.get? l = some o) (hc : o.cls = .type "dict") (hd : o.data = .dict es ep) (hu : A.units < cLine) : RcAt A s (.str b u) (.ref l) false := fun prog w E Q h => by
  obtain ⟨cls, dd, data, sl⟩ := o
  simp only at hc hd
  subst hc hd
  exact rc_eq_decline_or (k := false) (typeIs_str s b u) ⟨_, ho, rfl⟩ (by decide) F.sub_dict_str F.slot_str_eq F.slot_dict_eq_refl
    (fun _ hq => call_meets F.slot_str_eq (typeIs_str s b u) F.entry_str_eq (F.args_str_eq_2 _ _) (str_declines_dict b u l es ep dd sl) ⟨ho, hq⟩)
    (fun _ hq => call_meets F.slot_dict_eq_refl ⟨_, ho, rfl⟩ F.entry_dict_eq (F.args_dict_eq_2 _ _) (dict_declines_str b u l es ep dd sl) ⟨ho, hq⟩)
    (fun _ hq => wpAny_of_eq (rfl : isSame (.str b u) (.ref l) = pure false) hq) (.inr hu) h
theorem EqAt.str_dict {l : Addr} {o : Obj} {es : Array DictEntry} {ep : Nat} (b : Str) (u : Tok) (ho : s.heap.get? l = some o) (hc : o.cls = .type "dict") (hd : o.data = .dict es ep) (hu : A.units < cLine) : EqAt A s (.str b u) (.ref l) false := fun prog w E Q h => by
  unfold eqBool
  refine wpAny_holding ?_
  refine wpAny_ite_split (fun hab => absurd (eq_of_beq hab) nofun) (fun _ => ?_)
  exact wpAny_bind (RcAt.str_dict b u ho hc hd hu prog w E _ (wpAny_truthy_bool h))
end
end PySem.SeqAt
namespace DL
open PySem PySem.Spec PyProof.Rows L2
open Evl (Ex)
section
variable {X : Cx} {pins : List (Addr × Obj)} {σ : L2.St} {H : Hp} {s : Shared}
/-- a thing that is none among texts, but a text -/
def strIn (x : D) (ss : List Str) : Bool := match x with
  | .str z => decide (z ∈ ss)
  | _ => false
def strEq (x : D) (b : Str) : Bool := match x with
  | .str z => decide (b = z)
  | _ => false
theorem strs_any (x : D) (ss : List Str) : (ss.any fun b => strEq x b) = strIn x ss := by
  cases x with
  | str z =>
    unfold strEq strIn
    dsimp only
    induction ss with
    | nil => rfl
    | cons a ss ih =>
      rw [List.any_cons, ih]
      by_cases q : a = z
      · subst q; simp
      · have q2 : ¬ z = a := fun e => q e.symm
        simp [q, q2]
  | _ => unfold strEq strIn; dsimp only; induction ss with
    | nil => rfl
    | cons a ss ih => rw [List.any_cons, ih]; rfl
/-- a text beside any thing -/
theorem eq_strX (I : Inv X pins σ H s) (b : Str) (t : Tok) (A : PySem.Around) (hu : A.units < cLine) {x : D} {v : V} {u : Value} (hx : (tyD x).isSome = true) (r : Rep X.K H x v) (rv : RelV v u) : SeqAt.EqAt A s (.str b t) u (strEq x b) := by
  cases x with
  | non => unfold Rep at r; subst r; cases rv; exact SeqAt.EqAt.str_none b t
  | bl k => unfold Rep at r; subst r; cases rv; exact SeqAt.EqAt.str_bool b t k
  | int i =>
    unfold Rep at r; subst r
    obtain ⟨w, e⟩ := rv
    subst e
    exact SeqAt.EqAt.str_int b t _ _
  | str z =>
    unfold Rep at r; subst r
    obtain ⟨w, e⟩ := rv
    subst e
    have := SeqAt.EqAt.str_str (A := A) (s := s) b t z w
    have e : strEq (.str z) b = (b == z) := by
      show decide (b = z) = (b == z)
      by_cases q : b = z
      · subst q; simp
      · rw [decide_eq_false q]; simp [q]
    rw [e]
    exact this
  | lst xs =>
    unfold Rep at r
    obtain ⟨a, vs, rfl, ha, _⟩ := r
    cases rv
    obtain ⟨its, _, pl, _⟩ := I.list (sql (Rd.of ha))
    obtain ⟨o, m, e, c, d, q⟩ := pl
    exact SeqAt.EqAt.str_list b t ⟨o, e, c, m, q⟩ hu
  | tup xs =>
    unfold Rep at r
    obtain ⟨a, vs, rfl, ha, _⟩ := r
    cases rv
    obtain ⟨_, its, _, h⟩ := I.hok a _ ha
    exact SeqAt.EqAt.str_tuple b t h hu
  | dct kvs =>
    unfold Rep at r
    obtain ⟨a, vs, rfl, ha, _⟩ := r
    cases rv
    obtain ⟨_, _, ws, _, h⟩ := rd_ok I ha
    obtain ⟨o, es, ep, h1, h2, h3, _⟩ := h
    exact SeqAt.EqAt.str_dict b t h1 h2.1 h3 hu
  | _ => cases hx
end
def rInX (K : PySem.W.Frag) : R2 := fun x y H Q => ∃ d ss a, (tyD d).isSome = true ∧ Rep K H d x ∧ y = .ref a ∧ SqL K H a (ss.map V.str) ∧ Q (.bl (strIn d ss)) H
def rNotInX (K : PySem.W.Frag) : R2 := fun x y H Q => ∃ d ss a, (tyD d).isSome = true ∧ Rep K H d x ∧ y = .ref a ∧ SqL K H a (ss.map V.str) ∧ Q (.bl (!strIn d ss)) H
theorem vals_strs : ∀ {ss : List Str} {us : List Value}, Vals (ss.map V.str) us → ∃ ts : List (Str × Tok), ts.map (·.1) = ss ∧ us = ts.map fun q => Value.str q.1 q.2
  | [], us, h => by cases h; exact ⟨[], rfl, rfl⟩
  | s :: ss, us, h => by
    cases h with
    | cons r rs =>
      obtain ⟨ts, e1, e2⟩ := vals_strs rs
      obtain ⟨t, e⟩ := r
      subst e
      exact ⟨(s, t) :: ts, by rw [List.map_cons, e1], by rw [List.map_cons, e2]⟩
section
variable {X : Cx}
theorem inX_core {pins : List (Addr × Obj)} {σ : L2.St} {H : Hp} {s : Shared} (I : Inv X pins σ H s) (hu : X.A.units + 64 < cLine) {d : D} {ss : List Str} {a : Addr} {x : V} {u : Value} (hd : (tyD d).isSome = true) (r : Rep X.K H d x) (rv : RelV x u) (hq : SqL X.K H a (ss.map V.str)) :
    ∃ its : Array Value, s.heap.IsList a its ∧ ∃ e : Value → Bool, (∀ y, y ∈ its → SeqAt.EqAt X.A.in1 s y u (e y)) ∧ its.any e = strIn d ss := by
  obtain ⟨its, vs, pl, _⟩ := I.list hq
  obtain ⟨ts, e1, e2⟩ := vals_strs vs
  obtain ⟨o, m, e, c, dd, q⟩ := pl
  refine ⟨its.toArray, ⟨o, e, c, m, q⟩, fun y => match y with | .str b _ => strEq d b | _ => false, fun y hy => ?_, ?_⟩
  · have hy' : y ∈ its := by simpa using hy
    rw [e2] at hy'
    obtain ⟨p, _, ep⟩ := List.mem_map.mp hy'
    subst ep
    exact eq_strX I p.1 p.2 X.A.in1 (by show X.A.units + 1 < cLine; omega) hd r rv
  · rw [← strs_any, ← e1, e2, List.any_toArray, List.any_map, List.any_map]
    rfl
theorem op_inX (hu : X.A.units + 64 < cLine) : OpR X (compareOp .In) (rInX X.K) := by
  intro pins s σ H x y v u Q I rx ry h
  obtain ⟨d, ss, a, hd, r, rfl, hq, q⟩ := h
  cases ry
  obtain ⟨its, hl, e, he, hs⟩ := inX_core I hu hd r rx hq
  rw [← hs] at q
  exact SeqAt.in_listAt e hl he ⟨.bl _, H, I, rfl, q⟩
theorem op_notInX (hu : X.A.units + 64 < cLine) : OpR X (compareOp .NotIn) (rNotInX X.K) := by
  intro pins s σ H x y v u Q I rx ry h
  obtain ⟨d, ss, a, hd, r, rfl, hq, q⟩ := h
  cases ry
  obtain ⟨its, hl, e, he, hs⟩ := inX_core I hu hd r rx hq
  rw [← hs] at q
  exact SeqAt.notIn_listAt e hl he ⟨.bl _, H, I, rfl, q⟩
end
section
variable {c : Cd}
theorem reps_strsV {K : PySem.W.Frag} {G : Hp} : ∀ {ss : List Str} {vs : List V}, Reps K G (ss.map D.str) vs → vs = ss.map V.str
  | [], vs, h => by unfold Reps at h; exact h
  | s :: ss, vs, h => by
    unfold Reps at h
    obtain ⟨v, vr, rfl, hv, h⟩ := h
    unfold Rep at hv
    rw [hv, reps_strsV h]
    rfl
def dInX (f : Bool → Bool) : Dop := fun x y k => ∃ ss : List Str, (tyD x).isSome = true ∧ y = .lst (ss.map .str) ∧ k (.d (.bl (f (strIn x ss))))
theorem opd_inX : OpD c (rInX c.K) (dInX id) := by
  intro B G H σ δ r1 r2 v1 v2 x y Ψ Q F h1 h2 e1 e2 hf k
  obtain ⟨ss, hx, rfl, q⟩ := hf
  obtain ⟨a, vs, rfl, ha, hr⟩ := view_lst F h2 e2
  rw [reps_strsV hr] at ha
  exact ⟨x, ss, a, hx, view_repH F h1 e1, rfl, sql ha, k _ _ G H q (Ex.refl G) (Ex.refl H) F (rep_bl (K := c.K) (G := G))⟩
theorem opd_notInX : OpD c (rNotInX c.K) (dInX not) := by
  intro B G H σ δ r1 r2 v1 v2 x y Ψ Q F h1 h2 e1 e2 hf k
  obtain ⟨ss, hx, rfl, q⟩ := hf
  obtain ⟨a, vs, rfl, ha, hr⟩ := view_lst F h2 e2
  rw [reps_strsV hr] at ha
  exact ⟨x, ss, a, hx, view_repH F h1 e1, rfl, sql ha, k _ _ G H q (Ex.refl G) (Ex.refl H) F (rep_bl (K := c.K) (G := G))⟩
theorem dInX_ {f : Bool → Bool} {x : D} {ss : List Str} {k : R → Prop} (h : (tyD x).isSome = true) (q : k (.d (.bl (f (strIn x ss))))) : dInX f x (.lst (ss.map .str)) k := ⟨ss, h, rfl, q⟩
/-! s.upper() -/
def rUpperA : V → List V → Hp → VK → Prop := fun x xs H Q => ∃ a, x = .str a ∧ xs = [] ∧ a.length ≤ 5592405 ∧ Q (.str (Txt.upper a)) H
theorem mt_upperA {X : Cx} : MtR X "str.upper" rUpperA := mt_upper
theorem med_upper : MeD c rUpperA fun x ds k => ∃ a, x = .str a ∧ ds = [] ∧ a.length ≤ 5592405 ∧ k (.d (.str (Txt.upper a))) := by
  intro B G H σ δ r1 rs v vs x ds Ψ Q F h1 hr e1 e2 hf k
  obtain ⟨a, ex, ed, hl, q⟩ := hf
  subst ex ed
  have q1 := view_repH F h1 e1
  unfold Rep at q1
  have ev : vs = [] := by
    cases rs with
    | nil => exact hr
    | cons r rs => obtain ⟨x', es, e3, e4, e5⟩ := views_cons e2; cases e3
  subst ev
  exact ⟨a, q1, rfl, hl, k _ _ G H q (Ex.refl G) (Ex.refl H) F (rep_str (K := c.K) (G := G))⟩
/-- a call's arguments -/
theorem ex_callM {δ : List Sl} {as : List Sl} {rs : List R} {P : List Sl → Prop} (h1 : toAs δ rs = some as) (h2 : (owned as).Nodup) (q : P as) : ∃ as, toAs δ rs = some as ∧ (owned as).Nodup ∧ P as := ⟨as, h1, h2, q⟩
end
end DL

/-! DL38: for over a slot's dict. -/
namespace DL
open PySem PySem.Spec PyProof.Rows L2
open Evl (Ex)
section
variable {K : PySem.W.Frag} {cn : Cn} {Wx : WX} {Ψ : Nat → D → List Sl → Prop} {δ : List Sl} {kds : List (Key × D)} {i : Nat} {g : TG} {t : TS} {N Bk Ct : List Sl → Prop} {Rt : R → List Sl → Prop}
theorem w_forK (hi : δ[i]? = some (.d (.dct kds))) (h : ∃ I : Nat → List Sl → Prop, I 0 δ ∧ (∀ j d δ2, (dKeys kds)[j]? = some d → I j δ2 → WG (c0 K) g (.d d) δ2 fun δ3 => W (c0 K) t δ3 (I (j + 1)) Rt N (I (j + 1))) ∧ ∀ δ2, I (dKeys kds).length δ2 → N δ2) : W (c0 K) (tLk (tFor (iKeys (tVar i)) g t)) δ N Rt Bk Ct :=
  ws_forLk (c' := c0 K) rfl (fun _ _ => trivial) (fun a o kvs B G H σ F v => wi_keysL F v) hi h
theorem w_forI (hi : δ[i]? = some (.d (.dct kds))) (h : ∃ I : Nat → List Sl → Prop, I 0 δ ∧ (∀ j d δ2, (dItems kds)[j]? = some d → I j δ2 → WG (c0 K) g (.d d) δ2 fun δ3 => W (c0 K) t δ3 (I (j + 1)) Rt N (I (j + 1))) ∧ ∀ δ2, I (dItems kds).length δ2 → N δ2) : W (c0 K) (tLk (tFor (iItems (tVar i)) g t)) δ N Rt Bk Ct :=
  ws_forLk (c' := c0 K) rfl (fun _ _ => trivial) (fun a o kvs B G H σ F v => wi_itemsL F v) hi h
theorem w_forV (hi : δ[i]? = some (.d (.dct kds))) (h : ∃ I : Nat → List Sl → Prop, I 0 δ ∧ (∀ j d δ2, (dValues kds)[j]? = some d → I j δ2 → WG (c0 K) g (.d d) δ2 fun δ3 => W (c0 K) t δ3 (I (j + 1)) Rt N (I (j + 1))) ∧ ∀ δ2, I (dValues kds).length δ2 → N δ2) : W (c0 K) (tLk (tFor (iVals (tVar i)) g t)) δ N Rt Bk Ct :=
  ws_forLk (c' := c0 K) rfl (fun _ _ => trivial) (fun a o kvs B G H σ F v => wi_valuesL F v) hi h
theorem w_forKX (hi : δ[i]? = some (.d (.dct kds))) (h : ∃ I : Nat → List Sl → Prop, I 0 δ ∧ (∀ j d δ2, (dKeys kds)[j]? = some d → I j δ2 → WG (cX K cn (fun _ _ _ => False) Wx) g (.d d) δ2 fun δ3 => W (cX K cn (fun _ _ _ => False) Wx) t δ3 (I (j + 1)) Rt N (I (j + 1))) ∧ ∀ δ2, I (dKeys kds).length δ2 → N δ2) : W (cX K cn Ψ Wx) (tLk (tFor (iKeys (tVar i)) g t)) δ N Rt Bk Ct :=
  ws_forLk (c' := cX K cn (fun _ _ _ => False) Wx) rfl (fun B G nm x δ' σ' d v G' H' z => z.elim) (fun a o kvs B G H σ F v => wi_keysL F v) hi h
theorem w_forIX (hi : δ[i]? = some (.d (.dct kds))) (h : ∃ I : Nat → List Sl → Prop, I 0 δ ∧ (∀ j d δ2, (dItems kds)[j]? = some d → I j δ2 → WG (cX K cn (fun _ _ _ => False) Wx) g (.d d) δ2 fun δ3 => W (cX K cn (fun _ _ _ => False) Wx) t δ3 (I (j + 1)) Rt N (I (j + 1))) ∧ ∀ δ2, I (dItems kds).length δ2 → N δ2) : W (cX K cn Ψ Wx) (tLk (tFor (iItems (tVar i)) g t)) δ N Rt Bk Ct :=
  ws_forLk (c' := cX K cn (fun _ _ _ => False) Wx) rfl (fun B G nm x δ' σ' d v G' H' z => z.elim) (fun a o kvs B G H σ F v => wi_itemsL F v) hi h
end
section
variable {x y z w : D} {P : List D → Prop}
theorem ex_cx1 (q : P [x]) : ∃ ds : List D, [frz (R.d x)] = ds.map R.d ∧ P ds := ⟨_, rfl, q⟩
theorem ex_cx2 (q : P [x, y]) : ∃ ds : List D, [frz (R.d x), frz (R.d y)] = ds.map R.d ∧ P ds := ⟨_, rfl, q⟩
theorem ex_cx3 (q : P [x, y, z]) : ∃ ds : List D, [frz (R.d x), frz (R.d y), frz (R.d z)] = ds.map R.d ∧ P ds := ⟨_, rfl, q⟩
theorem ex_cx4 (q : P [x, y, z, w]) : ∃ ds : List D, [frz (R.d x), frz (R.d y), frz (R.d z), frz (R.d w)] = ds.map R.d ∧ P ds := ⟨_, rfl, q⟩
end
section
variable {K : PySem.W.Frag} {B G H : Hp} {σ : L2.St} {δ : List Sl}
theorem rv_less {s : Sl} {r : R} {v : V} (ho : ownOut r) (h : RV K B G H (δ ++ [s]) r v) : RV K B G H δ r v := by
  have sub : ∀ b, b ∉ owned (δ ++ [s]) → b ∉ owned δ := fun b hb z => hb (by rw [owned_append]; exact List.mem_append_left _ z)
  cases r with
  | d x => exact h
  | own a x => obtain ⟨h1, h2, h3, h4, h5⟩ := h; exact ⟨h1, h2, h3, h4, sub a h5⟩
  | deep a x gs => obtain ⟨h1, h2, h3, h4, h5⟩ := h; exact ⟨h1, h2, h3, fun b hb => ⟨(h4 b hb).1, (h4 b hb).2.1, sub b (h4 b hb).2.2⟩, h5⟩
  | bor i a => exact ho.elim
end
section
variable {c : Cd} {δ : List Sl} {te : TE} {Φ : R → List Sl → Prop}
/-- f(a new object): it is the callee's own -/
theorem we_call1N {S : SpD} {X : XK} (h : WE c false te δ fun r δ1 => ∃ a x, r = .own a x ∧ ∀ Ψ : R → List Sl → Prop, (∀ r s, ownOut r → Φ r δ1 → Ψ r [s]) → S [.own a x] Ψ) : WE c false (tCall (lift c.K S) [] X (tCons te tNil)) δ Φ := by
  intro B G H σ Q F xk k
  refine h B G H σ _ F xk fun r δ1 v G1 H1 w e1 F1 rv p1 => ?_
  obtain ⟨a, x, er, hS⟩ := w
  subst er
  obtain ⟨ev, ho, hB, hG, hO⟩ := rv
  subst ev
  show lift c.K S ([V.ref a] ++ []) H1 Q X
  rw [List.append_nil]
  have F2 := frame_more F1 ho hB hG hO
  have hix : (δ1 ++ [Sl.own a x])[δ1.length]? = some (.own a x) := by simp
  refine call_core (Φ := fun r δ2 => ownOut r ∧ Φ r δ1 ∧ ∃ s, δ2 = δ1 ++ [s]) F2 (rs := [.bor δ1.length a]) (vs := [.ref a]) ⟨.ref a, [], rfl, rfl, rfl⟩ (toAs_b hix toAs_nil) (by simp [owned]) (fun Ψ hΨ => hS Ψ fun r s hr q => hΨ r [s] hr ⟨hr, q, s, ?_⟩) fun r δ2 v G' H' q eG F' rv' n => ?_
  · exact back_more (rs := []) (as := []) rfl (fun i a m => nomatch m)
  · obtain ⟨hr, q, s, ed⟩ := q
    subst ed
    have hl : σ.length = δ1.length := F1.sl.len
    exact k r δ1 v G' H' q (e1.trans eG) (frame_less hl F').1 (rv_less hr rv') fun z => nomatch z
end
/-- a comprehension in a comprehension -/
theorem blkOk_nest {X : Cx} {s : Shared} {H : Hp} {sc0 scope : Scope} {cl : List (Str × Addr)} {C : Addr} {fp : List Addr} {own : List (Str × Nat)} {N : List Str} {scf : Scope} (hN : X.N = N) (hs : X.env.scope = scf) (h : blkC N (relabel sc0 { scope := scf, locals := 0, globals := 0, cells := [] }) scope own = true) :
    BlkOk (X.blk s H sc0 (compEnvC sc0 cl C X.env) fp).N (X.blk s H sc0 (compEnvC sc0 cl C X.env) fp).env.scope scope own := by
  subst hN hs
  exact blkOk_by h
end DL

/-! DL39: min, max of a list of ints with a default. -/
namespace PySem
open Builtin

section
variable {prog : Program} {w : World} {A : Around} {R : Result → Shared → Prop} {it : Addr} {fp wr : List Addr} {n : Nat} {P : Nat → Value → Prop} {St : Nat → Heap → Prop}
/-- min behind its first item, with keywords -/
theorem min_on (kws : List (Str × Value)) (wk : Walks prog w A.in1 it fp wr n P St) (less : Nat → Nat → Bool) (hc : CmpOf prog w A.in1 .Lt P less) (cell : Addr) (nfp : cell ∉ fp) :
    ∀ (left at_ : Nat) (s : Shared) (now : Value) (ep : Nat), n - (at_ + 1) = left → at_ + 1 ≤ n → St (at_ + 1) s.heap → P (argBest less at_) now →
    s.heap.get? cell = some { cls := .type "list", dict := none, data := .seq #[now, now] ep, slots := #[] } →
    (∀ best h2 tk2, P (argBest less (n - 1)) best → (∀ b o, b ∉ wr → b ≠ cell → s.heap.get? b = some o → h2.get? b = some o) → R (.ok (.ret best)) { s with heap := h2, toks := tk2 }) →
    codeAny (model prog w) A (.builtin "min.loop" ⟨[.ref it, .none, .ref cell], kws⟩) R s := by
  have nwr : cell ∉ wr := fun z => nfp (wk.sub _ z)
  have lname : (toString "min" ++ toString ".loop" : String) = "min.loop" := by decide
  intro left
  induction left with
  | zero =>
    intro at_ s now ep el le st pn hs out
    have last : at_ + 1 = n := by omega
    refine codeAny_builtin F.entry_min_loop ?_
    rw [Around.under_plainId F.plain_min_loop _]
    show wpAny _ A.in1 (seqItems? (.ref cell) >>= _) _ _ s
    refine wpAny_bind (wpAny_seqItems hs rfl ?_)
    show wpAny _ A.in1 (tryCatch (pyNext (.ref it)) _ >>= _) _ _ s
    refine wpAny_bind (wpAny_tryCatch (wk.done s _ _ (last ▸ st) fun h2 tk2 kept => ?_))
    have hs2 := kept cell _ nwr hs
    show wpAny _ A.in1 (updateSeq cell (fun _ => #[]) >>= _) _ _ _
    refine wpAny_bind (wpAny_updateSeq hs2 rfl (wpAny_bind (wpAny_letGo (wpAny_pure ?_))))
    exact out now _ tk2 (by rw [← last]; exact pn) fun b o hb hbc e => (Heap.get?_update_other _ _ (Ne.symm hbc)).trans (kept b o hb e)
  | succ left ih =>
    intro at_ s now ep el le st pn hs out
    have more : at_ + 1 < n := by omega
    refine codeAny_builtin F.entry_min_loop ?_
    rw [Around.under_plainId F.plain_min_loop _]
    show wpAny _ A.in1 (seqItems? (.ref cell) >>= _) _ _ s
    refine wpAny_bind (wpAny_seqItems hs rfl ?_)
    show wpAny _ A.in1 (tryCatch (pyNext (.ref it)) _ >>= _) _ _ s
    refine wpAny_bind (wpAny_tryCatch (wk.item (at_ + 1) s _ _ more st fun fresh h2 tk2 pf st2 kept => ?_))
    have hs2 := kept cell _ nwr hs
    show wpAny _ A.in1 (tryCatch (holding [fresh, fresh] (richCompare .Lt fresh now >>= _)) _ >>= _) _ _ _
    refine wpAny_bind (wpAny_tryCatch (wpAny_holding (wpAny_bind (hc (at_ + 1) (argBest less at_) fresh now _ _ _ pf pn ?_))))
    refine wpAny_bind (wpAny_holding (wpAny_truthy_bool (wpAny_bind (wpAny_letGo (wpAny_pure ?_)))))
    cases hb : less (at_ + 1) (argBest less at_) with
    | true =>
      simp only [if_true]
      refine wpAny_bind (wpAny_updateSeq hs2 rfl (wpAny_bind (wpAny_letGo ?_)))
      rw [lname]
      refine wpAny_pure ⟨plainId_quiet F.plain_min_loop _, ih (at_ + 1) _ fresh _ (by omega) more (wk.frame _ _ _ st2 fun b hbf o e => (Heap.get?_update_other _ _ (fun z : cell = b => nfp (by rw [z]; exact hbf))).trans e)
        (by simp only [argBest, hb, if_true]; exact pf) (Heap.get?_update_self _ hs2 rfl) fun best h3 tk3 pb kept3 => ?_⟩
      exact out best h3 tk3 pb fun b o hbw hbc e => kept3 b o hbw hbc ((Heap.get?_update_other _ _ (Ne.symm hbc)).trans (kept b o hbw e))
    | false =>
      simp only [Bool.false_eq_true, if_false]
      refine wpAny_bind (wpAny_letGo ?_)
      rw [lname]
      refine wpAny_pure ⟨plainId_quiet F.plain_min_loop _, ih (at_ + 1) _ now ep (by omega) more st2 (by simp only [argBest, hb, Bool.false_eq_true, if_false]; exact pn) hs2 fun best h3 tk3 pb kept3 => ?_⟩
      exact out best h3 tk3 pb fun b o hbw hbc e => kept3 b o hbw hbc (kept b o hbw e)
/-- min from its first item on, with a default -/
theorem min_go (kn : Str) (dflt : Value) (wk : Walks prog w A.in1 it fp wr n P St) (less : Nat → Nat → Bool) (hc : CmpOf prog w A.in1 .Lt P less) (cell : Addr) (nfp : cell ∉ fp) {s : Shared} {ep : Nat} (st : St 0 s.heap)
    (hs : s.heap.get? cell = some { cls := .type "list", dict := none, data := .seq #[] ep, slots := #[] })
    (out : ∀ best h2 tk2, (n = 0 → best = dflt) → (0 < n → P (argBest less (n - 1)) best) → (∀ b o, b ∉ wr → b ≠ cell → s.heap.get? b = some o → h2.get? b = some o) → R (.ok (.ret best)) { s with heap := h2, toks := tk2 }) :
    codeAny (model prog w) A (.builtin "min.loop" ⟨[.ref it, .none, .ref cell], [(kn, dflt)]⟩) R s := by
  have nwr : cell ∉ wr := fun z => nfp (wk.sub _ z)
  have lname : (toString "min" ++ toString ".loop" : String) = "min.loop" := by decide
  refine codeAny_builtin F.entry_min_loop ?_
  rw [Around.under_plainId F.plain_min_loop _]
  show wpAny _ A.in1 (seqItems? (.ref cell) >>= _) _ _ s
  refine wpAny_bind (wpAny_seqItems hs rfl ?_)
  show wpAny _ A.in1 (tryCatch (pyNext (.ref it)) _ >>= _) _ _ s
  rcases Nat.eq_zero_or_pos n with hn | hn
  · subst hn
    refine wpAny_bind (wpAny_tryCatch (wk.done s _ _ st fun h2 tk2 kept => ?_))
    refine wpAny_bind (wpAny_rule (wpAny_pure ?_))
    exact out dflt _ tk2 (fun _ => rfl) (fun z => absurd z (Nat.lt_irrefl 0)) fun b o hb _ e => kept b o hb e
  · refine wpAny_bind (wpAny_tryCatch (wk.item 0 s _ _ hn st fun fresh h2 tk2 pf st2 kept => ?_))
    have hs2 := kept cell _ nwr hs
    show wpAny _ A.in1 (updateSeq cell (fun _ => #[fresh, fresh]) >>= _) _ _ _
    refine wpAny_bind (wpAny_updateSeq hs2 rfl ?_)
    rw [lname]
    refine wpAny_pure ⟨plainId_quiet F.plain_min_loop _, min_on _ wk less hc cell nfp _ 0 _ fresh _ rfl hn (wk.frame _ _ _ st2 fun b hbf o e => (Heap.get?_update_other _ _ (fun z : cell = b => nfp (by rw [z]; exact hbf))).trans e)
      pf (Heap.get?_update_self _ hs2 rfl) fun best h3 tk3 pb kept3 => ?_⟩
    exact out best h3 tk3 (fun z => absurd z (by omega)) (fun _ => pb) fun b o hbw hbc e => kept3 b o hbw hbc ((Heap.get?_update_other _ _ (Ne.symm hbc)).trans (kept b o hbw e))
end
section
variable {prog : Program} {w : World} {A : Around} {E : Value → Shared → Prop} {s : Shared}
theorem F.args_minD (a d : Value) : argsOk "min" ⟨[a], [(Str.ofString "default", d)]⟩ := by unfold argsOk; kernel_rfl
theorem call_minD {x dflt : Value} {Q : Value → Shared → Prop}
    (h : wpAny (model prog w) A.in1 (pyIter x) (fun i s2 => ∃ it fp wr n P St less, i = .ref it ∧ Walks prog w A.in1 it fp wr n P St ∧ St 0 s2.heap ∧ (∀ b ∈ fp, b < s2.heap.objs.size) ∧ CmpOf prog w A.in1 .Lt P less ∧
      ∀ best h2 tk2, (n = 0 → best = dflt) → (0 < n → P (argBest less (n - 1)) best) → (∀ b o, b ∉ wr → s2.heap.get? b = some o → h2.get? b = some o) → Q best { s2 with heap := h2, toks := tk2 }) E s) :
    wpAny (model prog w) A (call (.builtin "min") [x] [(Str.ofString "default", dflt)]) Q E s := by
  have lname : (toString "min" ++ toString ".loop" : String) = "min.loop" := by decide
  refine PyProof.Rows.kmk_tree F.kind_min F.plain_min F.entry_min (F.args_minD _ _) ?_
  show wpAny _ A.in1 (Builtin.Builtins.bindParams "min" ["key", "default"] 0 ⟨[], [(Str.ofString "default", dflt)]⟩ >>= _) _ _ s
  refine wpAny_bind (wpAny_of_eq (show Builtin.Builtins.bindParams "min" ["key", "default"] 0 ⟨[], [(Str.ofString "default", dflt)]⟩ = pure [none, some dflt] from rfl) ?_)
  refine wpAny_bind (wpAny_pure (wpAny_bind (wpAny_mono h (fun i s2 q => ?_) fun _ _ e => e)))
  obtain ⟨it, fp, wr, n, P, St, less, rfl, wk, st, hfp, hc, hQ⟩ := q
  refine wpAny_bind (wpAny_newObj_type ?_)
  have nfp : s2.heap.objs.size ∉ fp := fun hm => Nat.lt_irrefl _ (hfp _ hm)
  rw [lname]
  refine wpAny_pure ⟨plainId_quiet F.plain_min_loop _, min_go _ dflt wk less hc s2.heap.objs.size nfp (wk.frame _ _ _ st fun b _ o e => Heap.get?_push_of_some _ e) (Heap.get?_push_size _ rfl) fun best h2 tk2 p0 p1 kept => ?_⟩
  exact hQ best h2 tk2 p0 p1 fun b o hbw e => kept b o hbw (Nat.ne_of_lt (Heap.lt_size e)) (Heap.get?_push_of_some _ e)
theorem minD_ints {l : Addr} {xs : Array (Int × Tok)} {dflt : Value} {Q : Value → Shared → Prop} (hh : A.handled = none) (hl : s.heap.IsList l (intItems xs))
    (h : ∀ v h' tk, (xs.size = 0 → v = dflt) → (0 < xs.size → (intItems xs)[argBest (fun i j => decide (numAt xs i < numAt xs j)) (xs.size - 1)]? = some v) → (∀ b o, s.heap.get? b = some o → h'.get? b = some o) → Q v { s with heap := h', toks := tk }) :
    wpAny (model prog w) A (call (.builtin "min") [.ref l] [(Str.ofString "default", dflt)]) Q E s := by
  refine call_minD (iter_intList hl fun s2 e st hfp ne => ?_)
  subst e
  refine ⟨_, _, _, _, _, _, _, rfl, Walks.list (A := A.in1) hh _ l ne (intItems xs), st, hfp, CmpOf.ints_lt (numAt xs) (fun _ _ => intItems_at), fun v h2 tk2 p0 p1 kept => ?_⟩
  exact h v h2 tk2 (by simpa [intItems] using p0) (by simpa [intItems] using p1) (old_kept kept)
end

section
variable {prog : Program} {w : World} {A : Around} {R : Result → Shared → Prop} {it : Addr} {fp wr : List Addr} {n : Nat} {P : Nat → Value → Prop} {St : Nat → Heap → Prop}
/-- max behind its first item, with keywords -/
theorem max_on (kws : List (Str × Value)) (wk : Walks prog w A.in1 it fp wr n P St) (less : Nat → Nat → Bool) (hc : CmpOf prog w A.in1 .Gt P less) (cell : Addr) (nfp : cell ∉ fp) :
    ∀ (left at_ : Nat) (s : Shared) (now : Value) (ep : Nat), n - (at_ + 1) = left → at_ + 1 ≤ n → St (at_ + 1) s.heap → P (argBest less at_) now →
    s.heap.get? cell = some { cls := .type "list", dict := none, data := .seq #[now, now] ep, slots := #[] } →
    (∀ best h2 tk2, P (argBest less (n - 1)) best → (∀ b o, b ∉ wr → b ≠ cell → s.heap.get? b = some o → h2.get? b = some o) → R (.ok (.ret best)) { s with heap := h2, toks := tk2 }) →
    codeAny (model prog w) A (.builtin "max.loop" ⟨[.ref it, .none, .ref cell], kws⟩) R s := by
  have nwr : cell ∉ wr := fun z => nfp (wk.sub _ z)
  have lname : (toString "max" ++ toString ".loop" : String) = "max.loop" := by decide
  intro left
  induction left with
  | zero =>
    intro at_ s now ep el le st pn hs out
    have last : at_ + 1 = n := by omega
    refine codeAny_builtin F.entry_max_loop ?_
    rw [Around.under_plainId F.plain_max_loop _]
    show wpAny _ A.in1 (seqItems? (.ref cell) >>= _) _ _ s
    refine wpAny_bind (wpAny_seqItems hs rfl ?_)
    show wpAny _ A.in1 (tryCatch (pyNext (.ref it)) _ >>= _) _ _ s
    refine wpAny_bind (wpAny_tryCatch (wk.done s _ _ (last ▸ st) fun h2 tk2 kept => ?_))
    have hs2 := kept cell _ nwr hs
    show wpAny _ A.in1 (updateSeq cell (fun _ => #[]) >>= _) _ _ _
    refine wpAny_bind (wpAny_updateSeq hs2 rfl (wpAny_bind (wpAny_letGo (wpAny_pure ?_))))
    exact out now _ tk2 (by rw [← last]; exact pn) fun b o hb hbc e => (Heap.get?_update_other _ _ (Ne.symm hbc)).trans (kept b o hb e)
  | succ left ih =>
    intro at_ s now ep el le st pn hs out
    have more : at_ + 1 < n := by omega
    refine codeAny_builtin F.entry_max_loop ?_
    rw [Around.under_plainId F.plain_max_loop _]
    show wpAny _ A.in1 (seqItems? (.ref cell) >>= _) _ _ s
    refine wpAny_bind (wpAny_seqItems hs rfl ?_)
    show wpAny _ A.in1 (tryCatch (pyNext (.ref it)) _ >>= _) _ _ s
    refine wpAny_bind (wpAny_tryCatch (wk.item (at_ + 1) s _ _ more st fun fresh h2 tk2 pf st2 kept => ?_))
    have hs2 := kept cell _ nwr hs
    show wpAny _ A.in1 (tryCatch (holding [fresh, fresh] (richCompare .Gt fresh now >>= _)) _ >>= _) _ _ _
    refine wpAny_bind (wpAny_tryCatch (wpAny_holding (wpAny_bind (hc (at_ + 1) (argBest less at_) fresh now _ _ _ pf pn ?_))))
    refine wpAny_bind (wpAny_holding (wpAny_truthy_bool (wpAny_bind (wpAny_letGo (wpAny_pure ?_)))))
    cases hb : less (at_ + 1) (argBest less at_) with
    | true =>
      simp only [if_true]
      refine wpAny_bind (wpAny_updateSeq hs2 rfl (wpAny_bind (wpAny_letGo ?_)))
      rw [lname]
      refine wpAny_pure ⟨plainId_quiet F.plain_max_loop _, ih (at_ + 1) _ fresh _ (by omega) more (wk.frame _ _ _ st2 fun b hbf o e => (Heap.get?_update_other _ _ (fun z : cell = b => nfp (by rw [z]; exact hbf))).trans e)
        (by simp only [argBest, hb, if_true]; exact pf) (Heap.get?_update_self _ hs2 rfl) fun best h3 tk3 pb kept3 => ?_⟩
      exact out best h3 tk3 pb fun b o hbw hbc e => kept3 b o hbw hbc ((Heap.get?_update_other _ _ (Ne.symm hbc)).trans (kept b o hbw e))
    | false =>
      simp only [Bool.false_eq_true, if_false]
      refine wpAny_bind (wpAny_letGo ?_)
      rw [lname]
      refine wpAny_pure ⟨plainId_quiet F.plain_max_loop _, ih (at_ + 1) _ now ep (by omega) more st2 (by simp only [argBest, hb, Bool.false_eq_true, if_false]; exact pn) hs2 fun best h3 tk3 pb kept3 => ?_⟩
      exact out best h3 tk3 pb fun b o hbw hbc e => kept3 b o hbw hbc (kept b o hbw e)
/-- max from its first item on, with a default -/
theorem max_go (kn : Str) (dflt : Value) (wk : Walks prog w A.in1 it fp wr n P St) (less : Nat → Nat → Bool) (hc : CmpOf prog w A.in1 .Gt P less) (cell : Addr) (nfp : cell ∉ fp) {s : Shared} {ep : Nat} (st : St 0 s.heap)
    (hs : s.heap.get? cell = some { cls := .type "list", dict := none, data := .seq #[] ep, slots := #[] })
    (out : ∀ best h2 tk2, (n = 0 → best = dflt) → (0 < n → P (argBest less (n - 1)) best) → (∀ b o, b ∉ wr → b ≠ cell → s.heap.get? b = some o → h2.get? b = some o) → R (.ok (.ret best)) { s with heap := h2, toks := tk2 }) :
    codeAny (model prog w) A (.builtin "max.loop" ⟨[.ref it, .none, .ref cell], [(kn, dflt)]⟩) R s := by
  have nwr : cell ∉ wr := fun z => nfp (wk.sub _ z)
  have lname : (toString "max" ++ toString ".loop" : String) = "max.loop" := by decide
  refine codeAny_builtin F.entry_max_loop ?_
  rw [Around.under_plainId F.plain_max_loop _]
  show wpAny _ A.in1 (seqItems? (.ref cell) >>= _) _ _ s
  refine wpAny_bind (wpAny_seqItems hs rfl ?_)
  show wpAny _ A.in1 (tryCatch (pyNext (.ref it)) _ >>= _) _ _ s
  rcases Nat.eq_zero_or_pos n with hn | hn
  · subst hn
    refine wpAny_bind (wpAny_tryCatch (wk.done s _ _ st fun h2 tk2 kept => ?_))
    refine wpAny_bind (wpAny_rule (wpAny_pure ?_))
    exact out dflt _ tk2 (fun _ => rfl) (fun z => absurd z (Nat.lt_irrefl 0)) fun b o hb _ e => kept b o hb e
  · refine wpAny_bind (wpAny_tryCatch (wk.item 0 s _ _ hn st fun fresh h2 tk2 pf st2 kept => ?_))
    have hs2 := kept cell _ nwr hs
    show wpAny _ A.in1 (updateSeq cell (fun _ => #[fresh, fresh]) >>= _) _ _ _
    refine wpAny_bind (wpAny_updateSeq hs2 rfl ?_)
    rw [lname]
    refine wpAny_pure ⟨plainId_quiet F.plain_max_loop _, max_on _ wk less hc cell nfp _ 0 _ fresh _ rfl hn (wk.frame _ _ _ st2 fun b hbf o e => (Heap.get?_update_other _ _ (fun z : cell = b => nfp (by rw [z]; exact hbf))).trans e)
      pf (Heap.get?_update_self _ hs2 rfl) fun best h3 tk3 pb kept3 => ?_⟩
    exact out best h3 tk3 (fun z => absurd z (by omega)) (fun _ => pb) fun b o hbw hbc e => kept3 b o hbw hbc ((Heap.get?_update_other _ _ (Ne.symm hbc)).trans (kept b o hbw e))
end
section
variable {prog : Program} {w : World} {A : Around} {E : Value → Shared → Prop} {s : Shared}
theorem F.args_maxD (a d : Value) : argsOk "max" ⟨[a], [(Str.ofString "default", d)]⟩ := by unfold argsOk; kernel_rfl
theorem call_maxD {x dflt : Value} {Q : Value → Shared → Prop}
    (h : wpAny (model prog w) A.in1 (pyIter x) (fun i s2 => ∃ it fp wr n P St less, i = .ref it ∧ Walks prog w A.in1 it fp wr n P St ∧ St 0 s2.heap ∧ (∀ b ∈ fp, b < s2.heap.objs.size) ∧ CmpOf prog w A.in1 .Gt P less ∧
      ∀ best h2 tk2, (n = 0 → best = dflt) → (0 < n → P (argBest less (n - 1)) best) → (∀ b o, b ∉ wr → s2.heap.get? b = some o → h2.get? b = some o) → Q best { s2 with heap := h2, toks := tk2 }) E s) :
    wpAny (model prog w) A (call (.builtin "max") [x] [(Str.ofString "default", dflt)]) Q E s := by
  have lname : (toString "max" ++ toString ".loop" : String) = "max.loop" := by decide
  refine PyProof.Rows.kmk_tree F.kind_max F.plain_max F.entry_max (F.args_maxD _ _) ?_
  show wpAny _ A.in1 (Builtin.Builtins.bindParams "max" ["key", "default"] 0 ⟨[], [(Str.ofString "default", dflt)]⟩ >>= _) _ _ s
  refine wpAny_bind (wpAny_of_eq (show Builtin.Builtins.bindParams "max" ["key", "default"] 0 ⟨[], [(Str.ofString "default", dflt)]⟩ = pure [none, some dflt] from rfl) ?_)
  refine wpAny_bind (wpAny_pure (wpAny_bind (wpAny_mono h (fun i s2 q => ?_) fun _ _ e => e)))
  obtain ⟨it, fp, wr, n, P, St, less, rfl, wk, st, hfp, hc, hQ⟩ := q
  refine wpAny_bind (wpAny_newObj_type ?_)
  have nfp : s2.heap.objs.size ∉ fp := fun hm => Nat.lt_irrefl _ (hfp _ hm)
  rw [lname]
  refine wpAny_pure ⟨plainId_quiet F.plain_max_loop _, max_go _ dflt wk less hc s2.heap.objs.size nfp (wk.frame _ _ _ st fun b _ o e => Heap.get?_push_of_some _ e) (Heap.get?_push_size _ rfl) fun best h2 tk2 p0 p1 kept => ?_⟩
  exact hQ best h2 tk2 p0 p1 fun b o hbw e => kept b o hbw (Nat.ne_of_lt (Heap.lt_size e)) (Heap.get?_push_of_some _ e)
theorem maxD_ints {l : Addr} {xs : Array (Int × Tok)} {dflt : Value} {Q : Value → Shared → Prop} (hh : A.handled = none) (hl : s.heap.IsList l (intItems xs))
    (h : ∀ v h' tk, (xs.size = 0 → v = dflt) → (0 < xs.size → (intItems xs)[argBest (fun i j => decide (numAt xs i > numAt xs j)) (xs.size - 1)]? = some v) → (∀ b o, s.heap.get? b = some o → h'.get? b = some o) → Q v { s with heap := h', toks := tk }) :
    wpAny (model prog w) A (call (.builtin "max") [.ref l] [(Str.ofString "default", dflt)]) Q E s := by
  refine call_maxD (iter_intList hl fun s2 e st hfp ne => ?_)
  subst e
  refine ⟨_, _, _, _, _, _, _, rfl, Walks.list (A := A.in1) hh _ l ne (intItems xs), st, hfp, CmpOf.ints_gt (numAt xs) (fun _ _ => intItems_at), fun v h2 tk2 p0 p1 kept => ?_⟩
  exact h v h2 tk2 (by simpa [intItems] using p0) (by simpa [intItems] using p1) (old_kept kept)
end
end PySem

namespace L2
open PySem PySem.Spec PyProof.Rows
section
variable {X : Cx}
def rminD (K : PySem.W.Frag) : List V → List V → Hp → VK → Prop := fun xs zs H Q => ∃ (a : Addr) (ns : List Int) (d : V), xs = [.ref a] ∧ zs = [d] ∧ SqL K H a (ns.map V.int) ∧ (ns = [] → Q d H) ∧ ∀ m, m ∈ ns → (∀ y, y ∈ ns → m ≤ y) → Q (.int m) H
theorem crk_minD (hc : X.calm = true) : CallRK X (.builtin "min") [("default" : Str)] (rminD X.K) := by
  intro pins s σ H xs zs us ws Q I r rz h
  obtain ⟨a, ns, d, rfl, rfl, hs, q0, q1⟩ := h
  obtain ⟨its, rv, hl, _⟩ := I.list hs
  rw [Vals.ref1 r]
  obtain ⟨u, rfl, rd⟩ : ∃ u, ws = [u] ∧ RelV d u := by
    cases rz with
    | cons rd rt => cases rt; exact ⟨_, rfl, rd⟩
  obtain ⟨xs, e⟩ := rv.ints.allInts.items
  have hn : numsOf (intItems xs).toList = ns := by rw [← e]; exact rv.ints.numsOf
  rw [nums_intItems] at hn
  have hl2 : s.heap.IsList a (intItems xs) := by rw [← e]; exact hl.isList
  show wpAny _ _ (call (.builtin "min") [.ref a] [(Str.ofString "default", u)]) _ _ s
  refine PySem.minD_ints (I.ok.hd hc) hl2 fun v h' tk p0 p1 hk => ?_
  rcases Nat.eq_zero_or_pos xs.size with z | z
  · rw [p0 z]
    have hn0 : ns = [] := by
      rw [← hn]
      have : xs = #[] := Array.eq_empty_of_size_eq_zero z
      rw [this]; rfl
    exact ⟨d, H, I.kept hk, rd, q0 hn0⟩
  · obtain ⟨t, rfl⟩ := intItems_at (p1 z)
    obtain ⟨h1, h2⟩ := argBest_lt (numAt xs) (xs.size - 1)
    refine ⟨.int _, H, I.kept hk, ⟨t, rfl⟩, q1 _ ?_ fun y hy => ?_⟩
    · rw [numAt_eq, ← hn]; exact PySem.getD_mem (by rw [List.length_map, Array.length_toList]; omega)
    · rw [← hn] at hy
      obtain ⟨j, hj, rfl⟩ := mem_getD hy
      rw [List.length_map, Array.length_toList] at hj
      rw [← numAt_eq]; exact h2 j (by omega)
end
end L2
namespace DL
open PySem PySem.Spec PyProof.Rows L2
open Evl (Ex)
section
variable {c : Cd} {p : Bool} {δ : List Sl} {tr tk : TA} {Φ : R → List Sl → Prop}
theorem we_minD (h : WA c p tr δ fun rs δ1 => WA c p tk δ1 fun zs δ2 => ∃ r1 d xs ns, rs = [r1] ∧ zs = [.d d] ∧ view δ2 r1 = some (.lst xs) ∧ intsD xs = some ns ∧ (ns = [] → Φ (.d d) δ2) ∧ ∀ m, m ∈ ns → (∀ y, y ∈ ns → m ≤ y) → Φ (.d (.int m)) δ2) : WE c p (tCKw (rminD c.K) tr tk) δ Φ := by
  intro B G H σ Q F xr k
  refine h B G H σ _ F xr fun rs δ1 vs G1 H1 w1 e1 F1 rv1 p1 => ?_
  refine w1 B G1 H1 σ _ F1 (c.mono _ _ _ e1 xr) fun zs δ2 ws G2 H2 w2 e2 F2 rv2 p2 => ?_
  obtain ⟨r1, d, xs, ns, rfl, rfl, hv, hn, q0, q1⟩ := w2
  obtain ⟨v, vr, rfl, hv1, hvr⟩ := rv1
  obtain rfl : vr = [] := hvr
  obtain ⟨u, ur, rfl, hu1, hur⟩ := rv2
  obtain rfl : ur = [] := hur
  obtain ⟨a, us, rfl, g1, g2⟩ := view_lst F2 (RW.mono e2 hv1) hv
  have e4 := ints_reps hn g2
  subst e4
  exact ⟨a, ns, u, rfl, rfl, sql g1, fun z => k _ δ2 _ G2 H2 (q0 z) (e1.trans e2) F2 hu1 fun hp => ⟨(p2 hp).1.trans (p1 hp).1, (p1 hp).2.trans (p2 hp).2⟩,
    fun m h1 h2 => k _ δ2 _ G2 H2 (q1 m h1 h2) (e1.trans e2) F2 (rep_int (K := c.K) (G := G2)) fun hp => ⟨(p2 hp).1.trans (p1 hp).1, (p1 hp).2.trans (p2 hp).2⟩⟩
end
end DL

namespace L2
open PySem PySem.Spec PyProof.Rows
section
variable {X : Cx}
def rmaxD (K : PySem.W.Frag) : List V → List V → Hp → VK → Prop := fun xs zs H Q => ∃ (a : Addr) (ns : List Int) (d : V), xs = [.ref a] ∧ zs = [d] ∧ SqL K H a (ns.map V.int) ∧ (ns = [] → Q d H) ∧ ∀ m, m ∈ ns → (∀ y, y ∈ ns → y ≤ m) → Q (.int m) H
theorem crk_maxD (hc : X.calm = true) : CallRK X (.builtin "max") [("default" : Str)] (rmaxD X.K) := by
  intro pins s σ H xs zs us ws Q I r rz h
  obtain ⟨a, ns, d, rfl, rfl, hs, q0, q1⟩ := h
  obtain ⟨its, rv, hl, _⟩ := I.list hs
  rw [Vals.ref1 r]
  obtain ⟨u, rfl, rd⟩ : ∃ u, ws = [u] ∧ RelV d u := by
    cases rz with
    | cons rd rt => cases rt; exact ⟨_, rfl, rd⟩
  obtain ⟨xs, e⟩ := rv.ints.allInts.items
  have hn : numsOf (intItems xs).toList = ns := by rw [← e]; exact rv.ints.numsOf
  rw [nums_intItems] at hn
  have hl2 : s.heap.IsList a (intItems xs) := by rw [← e]; exact hl.isList
  show wpAny _ _ (call (.builtin "max") [.ref a] [(Str.ofString "default", u)]) _ _ s
  refine PySem.maxD_ints (I.ok.hd hc) hl2 fun v h' tk p0 p1 hk => ?_
  rcases Nat.eq_zero_or_pos xs.size with z | z
  · rw [p0 z]
    have hn0 : ns = [] := by
      rw [← hn]
      have : xs = #[] := Array.eq_empty_of_size_eq_zero z
      rw [this]; rfl
    exact ⟨d, H, I.kept hk, rd, q0 hn0⟩
  · obtain ⟨t, rfl⟩ := intItems_at (p1 z)
    obtain ⟨h1, h2⟩ := argBest_gt (numAt xs) (xs.size - 1)
    refine ⟨.int _, H, I.kept hk, ⟨t, rfl⟩, q1 _ ?_ fun y hy => ?_⟩
    · rw [numAt_eq, ← hn]; exact PySem.getD_mem (by rw [List.length_map, Array.length_toList]; omega)
    · rw [← hn] at hy
      obtain ⟨j, hj, rfl⟩ := mem_getD hy
      rw [List.length_map, Array.length_toList] at hj
      rw [← numAt_eq]; exact h2 j (by omega)
end
end L2
namespace DL
open PySem PySem.Spec PyProof.Rows L2
open Evl (Ex)
section
variable {c : Cd} {p : Bool} {δ : List Sl} {tr tk : TA} {Φ : R → List Sl → Prop}
theorem we_maxD (h : WA c p tr δ fun rs δ1 => WA c p tk δ1 fun zs δ2 => ∃ r1 d xs ns, rs = [r1] ∧ zs = [.d d] ∧ view δ2 r1 = some (.lst xs) ∧ intsD xs = some ns ∧ (ns = [] → Φ (.d d) δ2) ∧ ∀ m, m ∈ ns → (∀ y, y ∈ ns → y ≤ m) → Φ (.d (.int m)) δ2) : WE c p (tCKw (rmaxD c.K) tr tk) δ Φ := by
  intro B G H σ Q F xr k
  refine h B G H σ _ F xr fun rs δ1 vs G1 H1 w1 e1 F1 rv1 p1 => ?_
  refine w1 B G1 H1 σ _ F1 (c.mono _ _ _ e1 xr) fun zs δ2 ws G2 H2 w2 e2 F2 rv2 p2 => ?_
  obtain ⟨r1, d, xs, ns, rfl, rfl, hv, hn, q0, q1⟩ := w2
  obtain ⟨v, vr, rfl, hv1, hvr⟩ := rv1
  obtain rfl : vr = [] := hvr
  obtain ⟨u, ur, rfl, hu1, hur⟩ := rv2
  obtain rfl : ur = [] := hur
  obtain ⟨a, us, rfl, g1, g2⟩ := view_lst F2 (RW.mono e2 hv1) hv
  have e4 := ints_reps hn g2
  subst e4
  exact ⟨a, ns, u, rfl, rfl, sql g1, fun z => k _ δ2 _ G2 H2 (q0 z) (e1.trans e2) F2 hu1 fun hp => ⟨(p2 hp).1.trans (p1 hp).1, (p1 hp).2.trans (p2 hp).2⟩,
    fun m h1 h2 => k _ δ2 _ G2 H2 (q1 m h1 h2) (e1.trans e2) F2 (rep_int (K := c.K) (G := G2)) fun hp => ⟨(p2 hp).1.trans (p1 hp).1, (p1 hp).2.trans (p2 hp).2⟩⟩
end
end DL

/-! DL40: for over the items of a dict that a call hands on; sorted of a list of numbers. -/
namespace L2
open PySem PySem.Spec PyProof.Rows
/-- a dict that is handed on is locked from here on -/
def tLkR (t : TE) : TE := fun σ H Q => t σ H fun x H1 => ∃ d u, x = .ref d ∧ H1 d = some u ∧ Mut (some u) ∧ ∀ od, Q x (upd H1 d (.frz od u))
theorem pe_lkR {X : Cx} {e : Expr} {t : TE} (h : PE X e t) : PE X e (tLkR t) := by
  refine ⟨fun pins s σ H Q I hw => ?_⟩
  refine thn (h.run pins s σ H _ I hw) fun v s1 ⟨x, H1, I1, r, q⟩ => ?_
  obtain ⟨d, u, ex, hd, mu, q⟩ := q
  obtain ⟨od, I2⟩ := I1.lock hd mu
  exact ⟨x, _, I2, r, q od⟩
end L2
namespace DL
open PySem PySem.Spec PyProof.Rows L2
open Evl (Ex)
section
variable {c : Cd} {δ : List Sl} {te : TE}
theorem wi_itemsN {Φ : List D → List Sl → Prop} (h : WE c false te δ fun r δ1 => ∃ a kds, r = .own a (.dct kds) ∧ Φ (dItems kds) δ1) : WI c false (iItems (tLkR te)) δ Φ := by
  intro B G H σ R F x k
  refine h B G H σ _ F x fun r δ1 v G1 H1 w e1 F1 rv p1 => ?_
  obtain ⟨a, kds, er, q⟩ := w
  subst er
  obtain ⟨ev, ⟨kvs, hx, hk⟩, hB, hG, hO⟩ := rv
  subst ev
  refine ⟨a, .dK kvs, rfl, hx, trivial, fun od => ⟨a, od, kvs, rfl, upd_same, ?_⟩⟩
  have Fz := (F1.freeze hx hB hG hO).relock (a := a) (u := .dK kvs) (w := .frz od (.dK kvs)) (.inl ⟨_, rfl⟩) upd_same (.inl rfl) (.inr ⟨od, rfl⟩)
  rw [upd_upd'] at Fz
  have eG : Ex G1 (upd G1 a (.frz od (.dK kvs))) := Ex.new hG
  have hk' := hk.mono eG
  refine k _ δ1 _ _ _ q (e1.trans eG) Fz (fun z => nomatch z) ⟨_, _, by unfold dItems; rw [List.length_map, ← repK_ln hk]; exact walk_items, fun H2 e => e a _ upd_same, yl_pair fun j x y hj hx hy => ?_⟩
  obtain ⟨kv, e2, e3⟩ := Option.map_eq_some_iff.mp hx
  rw [e2] at hy
  cases hy
  obtain ⟨d, hd, hr⟩ := repK_getV hk' e2
  subst e3
  refine ⟨keyD kv.1, d, ?_, keyD_rep _, hr⟩
  unfold dItems
  rw [List.getElem?_map, hd]
  rfl
theorem intsD_map : ∀ ns : List Int, intsD (ns.map .int) = some ns
  | [] => rfl
  | n :: ns => by show (intsD (ns.map .int)).map _ = _; rw [intsD_map ns]; rfl
theorem cad_sortI : CaD c (rSorted c.K) fun ds k => ∃ ns : List Int, ds = [.lst (ns.map .int)] ∧ ns.length < 64 ∧ ∀ (a : Addr) (ms : List Int), ms.Perm ns → ms.Pairwise (· ≤ ·) → k (.own a (.lst (ms.map .int))) := by
  intro B G H σ δ rs vs ds Ψ Q F hr hv hd k
  obtain ⟨ns, e, hl, q⟩ := hd
  subst e
  obtain ⟨r1, w, e1, e2, h1, h2⟩ := view_one hv hr
  subst e2
  obtain ⟨a, xs, e3, g1, g2⟩ := view_lst F h2 h1
  subst e3
  have e4 := ints_reps (intsD_map ns) g2
  subst e4
  refine ⟨a, ns, rfl, .inl g1, hl, fun ms l z1 z2 hl2 => ?_⟩
  refine k _ _ G _ (q l _ z1 z2) (Ex.refl G) (Ex.new hl2) (F.ex (Ex.new hl2)) (rv_newL F hl2 ?_)
  have all : ∀ ms : List Int, Reps c.K G (ms.map D.int) (ms.map V.int) := fun ms => by
    induction ms with
    | nil => exact reps_nil
    | cons m ms ih => exact reps_cons rep_int ih
  exact all ms
end
end DL

/-! DL41: any thing in a tuple of texts. -/
namespace DL
open PySem PySem.Spec PyProof.Rows L2
open Evl (Ex)
def rInXT (K : PySem.W.Frag) : R2 := fun x y H Q => ∃ d ss a, (tyD d).isSome = true ∧ Rep K H d x ∧ y = .ref a ∧ SqT K H a (ss.map V.str) ∧ Q (.bl (strIn d ss)) H
def rNotInXT (K : PySem.W.Frag) : R2 := fun x y H Q => ∃ d ss a, (tyD d).isSome = true ∧ Rep K H d x ∧ y = .ref a ∧ SqT K H a (ss.map V.str) ∧ Q (.bl (!strIn d ss)) H
section
variable {X : Cx}
theorem inXT_core {pins : List (Addr × Obj)} {σ : L2.St} {H : Hp} {s : Shared} (I : Inv X pins σ H s) (hu : X.A.units + 64 < cLine) {d : D} {ss : List Str} {a : Addr} {x : V} {u : Value} (hd : (tyD d).isSome = true) (r : Rep X.K H d x) (rv : RelV x u) (hq : SqT X.K H a (ss.map V.str)) :
    ∃ its : Array Value, s.heap.IsTuple a its ∧ ∃ e : Value → Bool, (∀ y, y ∈ its → SeqAt.EqAt X.A.in1 s y u (e y)) ∧ its.any e = strIn d ss := by
  obtain ⟨its, vs, pl, _⟩ := I.tuple hq
  obtain ⟨ts, e1, e2⟩ := vals_strs vs
  refine ⟨its.toArray, pl, fun y => match y with | .str b _ => strEq d b | _ => false, fun y hy => ?_, ?_⟩
  · have hy' : y ∈ its := by simpa using hy
    rw [e2] at hy'
    obtain ⟨p, _, ep⟩ := List.mem_map.mp hy'
    subst ep
    exact eq_strX I p.1 p.2 X.A.in1 (by show X.A.units + 1 < cLine; omega) hd r rv
  · rw [← strs_any, ← e1, e2, List.any_toArray, List.any_map, List.any_map]
    rfl
theorem op_inXT (hu : X.A.units + 64 < cLine) : OpR X (compareOp .In) (rInXT X.K) := by
  intro pins s σ H x y v u Q I rx ry h
  obtain ⟨d, ss, a, hd, r, rfl, hq, q⟩ := h
  cases ry
  obtain ⟨its, hl, e, he, hs⟩ := inXT_core I hu hd r rx hq
  rw [← hs] at q
  exact SeqAt.in_tupleAt e hl he ⟨.bl _, H, I, rfl, q⟩
theorem op_notInXT (hu : X.A.units + 64 < cLine) : OpR X (compareOp .NotIn) (rNotInXT X.K) := by
  intro pins s σ H x y v u Q I rx ry h
  obtain ⟨d, ss, a, hd, r, rfl, hq, q⟩ := h
  cases ry
  obtain ⟨its, hl, e, he, hs⟩ := inXT_core I hu hd r rx hq
  rw [← hs] at q
  exact SeqAt.notIn_tupleAt e hl he ⟨.bl _, H, I, rfl, q⟩
end
section
variable {c : Cd}
def dInXT (f : Bool → Bool) : Dop := fun x y k => ∃ ss : List Str, (tyD x).isSome = true ∧ y = .tup (ss.map .str) ∧ k (.d (.bl (f (strIn x ss))))
theorem opd_inXT : OpD c (rInXT c.K) (dInXT id) := by
  intro B G H σ δ r1 r2 v1 v2 x y Ψ Q F h1 h2 e1 e2 hf k
  obtain ⟨ss, hx, rfl, q⟩ := hf
  obtain ⟨a, vs, rfl, ha, hr⟩ := view_tup F h2 e2
  rw [reps_strsV hr] at ha
  exact ⟨x, ss, a, hx, view_repH F h1 e1, rfl, ha, k _ _ G H q (Ex.refl G) (Ex.refl H) F (rep_bl (K := c.K) (G := G))⟩
theorem opd_notInXT : OpD c (rNotInXT c.K) (dInXT not) := by
  intro B G H σ δ r1 r2 v1 v2 x y Ψ Q F h1 h2 e1 e2 hf k
  obtain ⟨ss, hx, rfl, q⟩ := hf
  obtain ⟨a, vs, rfl, ha, hr⟩ := view_tup F h2 e2
  rw [reps_strsV hr] at ha
  exact ⟨x, ss, a, hx, view_repH F h1 e1, rfl, ha, k _ _ G H q (Ex.refl G) (Ex.refl H) F (rep_bl (K := c.K) (G := G))⟩
theorem dInXT_ {f : Bool → Bool} {x : D} (ss : List Str) {y : D} {k : R → Prop} (h : (tyD x).isSome = true) (hy : y = .tup (ss.map .str)) (q : k (.d (.bl (f (strIn x ss))))) : dInXT f x y k := ⟨ss, h, hy, q⟩
end
end DL

/-! DL42: any thing in a tuple of texts that the module keeps. -/
namespace DL
open PySem PySem.Spec PyProof.Rows L2
open Evl (Ex)
def KTup (K : PySem.W.Frag) (a : Addr) (ss : List Str) : Prop := ∃ (o : Obj) (its : Array Value) (n : Nat), K.lookup a = some o ∧ o.cls = .type "tuple" ∧ o.data = .seq its n ∧ its.size ≤ sizeLine ∧ Vals (ss.map V.str) its.toList
section
variable {c : Cd} {p : Bool} {δ : List Sl} {te : TE} {Φ : R → List Sl → Prop}
theorem we_notInK {a : Addr} (ss : List Str) (hk : KTup c.K a ss) (h : WE c p te δ fun r δ1 => ∃ x, view δ1 (frz r) = some x ∧ (tyD x).isSome = true ∧ Φ (.d (.bl (!strIn x ss))) δ1) : WE c p (tOp (rNotInXT c.K) te (tC (.ref a))) δ Φ := by
  intro B G H σ Q F xr k
  refine h B G H σ _ F xr fun r δ1 v G1 H1 w e1 F1 rv p1 => ?_
  obtain ⟨x, hv, hx, q⟩ := w
  obtain ⟨G2, e2, F2, rw⟩ := rv.weak F1
  exact ⟨x, ss, a, hx, view_repH F2 rw hv, rfl, .inr hk, k _ δ1 _ G2 H1 q (e1.trans e2) F2 (rep_bl (K := c.K) (G := G2)) p1⟩
theorem we_inK {a : Addr} (ss : List Str) (hk : KTup c.K a ss) (h : WE c p te δ fun r δ1 => ∃ x, view δ1 (frz r) = some x ∧ (tyD x).isSome = true ∧ Φ (.d (.bl (strIn x ss))) δ1) : WE c p (tOp (rInXT c.K) te (tC (.ref a))) δ Φ := by
  intro B G H σ Q F xr k
  refine h B G H σ _ F xr fun r δ1 v G1 H1 w e1 F1 rv p1 => ?_
  obtain ⟨x, hv, hx, q⟩ := w
  obtain ⟨G2, e2, F2, rw⟩ := rv.weak F1
  exact ⟨x, ss, a, hx, view_repH F2 rw hv, rfl, .inr hk, k _ δ1 _ G2 H1 q (e1.trans e2) F2 (rep_bl (K := c.K) (G := G2)) p1⟩
end
end DL

namespace Lw
open PySem PySem.Spec PyProof.Rows L2 DL TL
open Evl (Ex)
abbrev St := L2.St
abbrev R := DL.R
abbrev XNoPlaces : Nat := 0
abbrev XNoName : Nat := 1
abbrev XTwice : Nat := 2
abbrev XNoTies : Nat := 3
abbrev XNoTie : Nat := 4
abbrev XNoPlace : Nat := 5
abbrev XLoop : Nat := 6
abbrev XNoLength : Nat := 7
abbrev XNoNumber : Nat := 8
abbrev XNoSigns : Nat := 9
abbrev XNoKind : Nat := 10
abbrev XTied : Nat := 11
abbrev CWeb : Nat := 12
abbrev K_KINDS : Nat := 13

def wholeB : D → Int → Int → Bool
  | .int i, lo, hi => decide (lo ≤ i) && decide (i ≤ hi)
  | _, _, _ => false
/-- the letters -/
def lettersL : List Nat := [97, 98, 99, 100, 101, 102, 103, 104, 105, 106, 107, 108, 109, 110, 111, 112, 113, 114, 115, 116, 117, 118, 119, 120, 121, 122]
def nmOk (x : Str) : Bool := decide (1 ≤ x.length) && decide (x.length ≤ 6) && (tl x).all fun ch => decide (ch ∈ lettersL)
structure NmOk (ns : List Str) : Prop where
  l1 : 1 ≤ ns.length
  l2 : ns.length ≤ 12
  nd : ns.Nodup
  ok : ∀ x ∈ ns, nmOk x = true
/-- names, as a list or a tuple -/
def nsD (t : Bool) (ns : List Str) : D := if t = true then .tup (ns.map .str) else .lst (ns.map .str)
/-- any thing -/
def anyD (x : D) : Prop := (tyD x).isSome = true ∧ strOk x
def nameB : D → Bool
  | .str s => nmOk s
  | _ => false
def S_is_whole : SpD := fun as Φ => ∃ x lo hi, as = [.d x, .d (.int lo), .d (.int hi)] ∧ (tyD x).isSome = true ∧ Φ (.d (.bl (wholeB x lo hi))) as
def S_is_name : SpD := fun as Φ => ∃ x, as = [.d x] ∧ anyD x ∧ Φ (.d (.bl (nameB x))) as
/-- a box: three numbers, at most n draws behind -/
def BoxD (n : Nat) (x : D) : Prop := ∃ x0 x1 x2 : Int, x = .lst [.int x0, .int x1, .int x2] ∧ 0 ≤ x1 ∧ x1 < 2147483648 ∧ 0 ≤ x2 ∧ x2 ≤ n
/-- so many names -/
structure Nms (m : Nat) (ns : List Str) : Prop where
  len : ns.length = m
  nd : ns.Nodup
  ok : ∀ x ∈ ns, nmOk x = true
def S_l_cell : SpD := fun as Φ => ∃ (ns : List Int) (k : Nat), as = [.d (.ro (ns.map .int)), .d (.int k)] ∧ ns.length ≤ 63 ∧ ∀ v : Int, Φ (.d (.int v)) as
def S_l_box : SpD := fun as Φ => ∃ v : Int, as = [.d (.int v)] ∧ ∀ b x, BoxD 0 x → Φ (.own b x) as
def S_l_take : SpD := fun as Φ => ∃ b x n m, as = [.own b x, .d (.int m)] ∧ BoxD n x ∧ n < 1000000 ∧ 0 < m ∧ m < 2 ^ 200 ∧ ∀ r x', 0 ≤ r → r < m → BoxD (n + 1) x' → Φ (.d (.int r)) [.own b x', .d (.int m)]
/-! rows of signs -/
def strL (L : List Nat) : Str := ⟨L.toArray⟩
def zo (L : List Nat) : Bool := L.all fun ch => decide (ch = 48) || decide (ch = 49)
def rnum (L : List Nat) : Nat := L.foldl (fun a c => 2 * a + 1 + (c - 48)) 0
def bb (n : Nat) : List Nat := if h : n = 0 then [] else bb ((n - 1) / 2) ++ [48 + (n - 1) % 2]
termination_by n
decreasing_by omega
def sD (k : Nat) : D := .str (strL (bb k))
/-! kinds -/
def kinds : List Str := ["path", "star", "ring", "pair"]
def lowN (w : Str) : Nat := if w = "ring" then 3 else 1
/-- what is refused: the word, or the number -/
def Bad (x y : D) (nm : Nat) (z : D) : Prop := (strIn x kinds = false ∧ nm = XNoKind ∧ z = x) ∨ ∃ w, w ∈ kinds ∧ x = .str w ∧ wholeB y (lowN w : Nat) 1000 = false ∧ nm = XNoNumber ∧ z = y
structure Good (w : Str) (n : Nat) : Prop where
  hw : w ∈ kinds
  lo : lowN w ≤ n
  hi : n ≤ 1000
def RfP (n f : Nat) : Prop := 2 ≤ f ∧ f ≤ 46 ∧ n ≤ f * (f - 1) / 2 ∧ (f - 1) * (f - 2) / 2 < n
def Why (w : Str) (n f : Nat) : Prop := (w ≠ "pair" ∧ f = n) ∨ (w = "pair" ∧ RfP n f)
def plN : Nat → List (Nat × Nat)
  | 0 => []
  | o + 1 => plN o ++ (List.range o).map fun l => (l, o)
def prsN (n : Nat) : List (Nat × Nat) := (plN 46).take n
def nnD (q : Nat × Nat) : D := .tup [.int (q.1 : Nat), .int (q.2 : Nat)]
def ssD (q : Nat × Nat) : D := .tup [sD q.1, sD q.2]
def rowsK (w : Str) (n : Nat) : List D := if w = "pair" then (prsN n).map ssD else (List.range n).map sD
def LongN (m l : Nat) : Prop := 2 ^ l ≤ m ∧ m < 2 ^ (l + 1)
def S_need_number : SpX := fun as Φ _ => ∃ n lo : Nat, as = [.d (.int (n : Nat)), .d (.int (lo : Nat))] ∧ lo ≤ n ∧ n ≤ 5000 ∧ Φ (.d .non) as
def S_row_by : SpX := fun as Φ _ => ∃ n : Nat, as = [.d (.int (n : Nat))] ∧ n ≤ 5000 ∧ Φ (.d (sD n)) as
def S_least_signs : SpX := fun as Φ _ => ∃ n : Nat, as = [.d (.int (n : Nat))] ∧ 1 ≤ n ∧ n ≤ 5000 ∧ ∀ l, LongN n l → Φ (.d (.int (l : Nat))) as
def S_need_kind : SpX := fun as Φ Y => ∃ x y, ∃ m : Nat, as = [.d x, .d y, .d (.int (m : Nat))] ∧ anyD x ∧ (tyD y).isSome = true ∧ ((∃ nm z, Bad x y nm z ∧ Y nm z) ∨ ∃ w n, x = .str w ∧ y = .int (n : Nat) ∧ Good w n ∧ m = 1000 ∧ Φ (.d .non) as)
def S_rows_for_pairs : SpD := fun as Φ => ∃ n : Nat, as = [.d (.int (n : Nat))] ∧ 1 ≤ n ∧ n ≤ 1000 ∧ ∀ f, RfP n f → Φ (.d (.int (f : Nat))) as
def S_why_many : SpX := fun as Φ Y => ∃ x y, as = [.d x, .d y] ∧ anyD x ∧ (tyD y).isSome = true ∧ ((∃ nm z, Bad x y nm z ∧ Y nm z) ∨ ∃ w n, x = .str w ∧ y = .int (n : Nat) ∧ Good w n ∧ ∀ f, Why w n f → Φ (.d (.int (f : Nat))) as)
def S_kind_rows : SpX := fun as Φ Y => ∃ x y, as = [.d x, .d y] ∧ anyD x ∧ (tyD y).isSome = true ∧ ((∃ nm z, Bad x y nm z ∧ Y nm z) ∨ ∃ w n, x = .str w ∧ y = .int (n : Nat) ∧ Good w n ∧ ∀ b, Φ (.own b (.lst (rowsK w n))) as)
def S_kind_web : SpX := fun as _ Y => ∃ x y, as = [.d x, .d y] ∧ anyD x ∧ (tyD y).isSome = true ∧ ∃ nm z, Bad x y nm z ∧ Y nm z
def S_kind_far : SpX := fun as _ Y => ∃ x y u v, as = [.d x, .d y, .d u, .d v] ∧ anyD x ∧ (tyD y).isSome = true ∧ ∃ nm z, Bad x y nm z ∧ Y nm z
def S_l_signs : SpD := fun as Φ => ∃ n : Nat, as = [.d (.int (n : Nat))] ∧ n ≤ 5000 ∧ Φ (.d (sD n)) as
def S_l_longest : SpD := fun as Φ => ∃ n : Nat, as = [.d (.int (n : Nat))] ∧ 1 ≤ n ∧ n ≤ 5000 ∧ ∀ l, LongN n l → Φ (.d (.int (l : Nat))) as
def S_l_pairs : SpD := fun as Φ => ∃ n : Nat, as = [.d (.int (n : Nat))] ∧ 1 ≤ n ∧ n ≤ 1000 ∧ ∀ b, Φ (.own b (.lst ((prsN n).map nnD))) as
def S_l_many : SpD := fun as Φ => ∃ b x n w, as = [.own b x, .d (.str w)] ∧ BoxD n x ∧ n + 2 < 1000000 ∧ w ∈ kinds ∧ ∀ (v : Nat) x', Good w v → BoxD (n + 2) x' → Φ (.d (.int (v : Nat))) [.own b x', .d (.str w)]
def S_l_call : SpX := fun as _ Y => ∃ c : Nat, ∃ x y, as = [.d (.int (c : Nat)), .d x, .d y] ∧ c < 4 ∧ anyD x ∧ (tyD y).isSome = true ∧ ∃ nm z, Bad x y nm z ∧ Y nm z
def badT (nm : Nat) : Str := if nm = XNoKind then "kind" else "number"
def S_l_refused : SpD := fun as Φ => ∃ c : Nat, ∃ x y nm z, as = [.d (.int (c : Nat)), .d x, .d y] ∧ c < 4 ∧ anyD x ∧ (tyD y).isSome = true ∧ Bad x y nm z ∧ rpOk (.tup [.str (badT nm), z]) ∧ Φ (.d (.str (reprA (.tup [.str (badT nm), z])))) as
def S_l_rows_right : SpD := fun as Φ => ∃ w, ∃ n : Nat, as = [.d (.str w), .d (.int (n : Nat))] ∧ Good w n ∧ Φ (.d (.bl true)) as
def S_l_refusals_right : SpD := fun as Φ => ∃ b x n w, ∃ m : Nat, as = [.own b x, .d (.str w), .d (.int (m : Nat))] ∧ BoxD n x ∧ n + 10 < 1000000 ∧ Good w m ∧ ∀ x', BoxD (n + 10) x' → Φ (.d (.bl true)) [.own b x', .d (.str w), .d (.int (m : Nat))]
def S_law : SpD := fun as Φ => ∃ ns : List Int, as = [.d (.ro (ns.map .int))] ∧ ns.length ≤ 63 ∧ Φ (.d (.bl true)) as

abbrev N_is_whole : List Str := ["thing", "low", "high"]
abbrev N_need_number : List Str := ["thing", "low"]
abbrev N_row_by : List Str := ["number", "signs", "digit"]
abbrev N_least_signs : List Str := ["many", "signs", "rows"]
abbrev N_need_kind : List Str := ["word", "many", "most", "least"]
abbrev N_rows_for_pairs : List Str := ["many", "found"]
abbrev N_why_many : List Str := ["word", "many"]
abbrev N_kind_rows : List Str := ["word", "many", "number", "found", "other", "one"]
abbrev N_kind_far : List Str := ["word", "many", "one", "other", "least", "here", "there", "apart"]
abbrev N_kind_web : List Str := ["word", "many", "names", "ties", "at"]
abbrev N_l_cell : List Str := ["_law_script", "_law_k"]
abbrev N_l_box : List Str := ["_law_cell_here"]
abbrev N_l_take : List Str := ["_law_box_here", "_law_many_here", "_law_digit", "_law_seed", "_law_number"]
abbrev N_l_signs : List Str := ["_law_number", "_law_found"]
abbrev N_l_longest : List Str := ["_law_many_here", "_law_long", "_law_rows"]
abbrev N_l_pairs : List Str := ["_law_many_here", "_law_found", "_law_high", "_law_low"]
abbrev N_l_many : List Str := ["_law_box_here", "_law_word", "_law_low", "_law_way"]
abbrev N_l_call : List Str := ["_law_way", "_law_word", "_law_many_here"]
abbrev N_l_refused : List Str := ["_law_way", "_law_word", "_law_many_here", "_law_told", "e"]
abbrev N_l_rows_right : List Str := ["_law_word", "_law_many_here", "_law_due", "_law_number", "_law_rows", "_law_pairs_here", "_law_low", "_law_high", "_law_lap", "_law_told", "_law_long"]
abbrev N_l_refusals_right : List Str := ["_law_box_here", "_law_word", "_law_many_here", "_law_letter", "_law_at", "_law_some", "_law_odd", "_law_thing", "_law_bad", "_law_low", "_law_number", "_law_way"]
abbrev N_law : List Str := ["_law_script", "_law_k", "_law_box_here", "_law_word", "_law_many_here"]
def t_is_whole (K : PySem.W.Frag) (cn : Cn) : TS :=
  (tSeq (tIfS (tOr (tNot (tTruth K (tCB (rIsiB K) (tCons (tVar 0) (tCons (tC (.ty "int")) tNil))))) (tTruth K (tCB (rIsiB K) (tCons (tVar 0) (tCons (tC (.ty "bool")) tNil))))) (tRet (tC (.bl false))) tNext)
    (tRet (tChain rLeA rLeA (tVar 1) (tVar 0) (tVar 2))))
def t_need_number (K : PySem.W.Frag) (cn : Cn) (W : WX) : TS :=
  (tIfS (tNot (tTruth K (tCall (lift K S_is_whole) [] E0 (tCons (tVar 0) (tCons (tVar 1) (tCons (tC (.int 999999999999999999999999999999)) tNil)))))) tNever tNext)
def t_row_by (K : PySem.W.Frag) (cn : Cn) (W : WX) : TS :=
  (tSeq (tDrop (tCallS (liftX K cn S_need_number) (L2.WE W) (tCons (tVar 0) (tCons (tC (.int 0)) tNil))))
    (tSeq (tAsg (tLst tNil) (gName 1))
    (tSeq (tWhile (tTest (tOp rGtA (tVar 0) (tC (.int 0)))) (tSeq (tAsg (tCB rDivmodA (tCons (tOp rSubA (tVar 0) (tC (.int 1))) (tCons (tC (.int 2)) tNil))) (gSeq K 2 (gCons (gName 0) (gCons (gName 2) gNil))))
    (tDrop (tBM K "list" rAppend (tVar 1) (tCons (tCB rStrI (tCons (tVar 2) tNil)) tNil)))))
    (tRet (tBM K "str" (rJoinA K) (tC (.str "")) (tCons (tRevL K (tVar 1)) tNil))))))
def t_least_signs (K : PySem.W.Frag) (cn : Cn) (W : WX) : TS :=
  (tSeq (tDrop (tCallS (liftX K cn S_need_number) (L2.WE W) (tCons (tVar 0) (tCons (tC (.int 1)) tNil))))
    (tSeq (tAsg (tC (.int 0)) (gName 1))
    (tSeq (tAsg (tC (.int 1)) (gName 2))
    (tSeq (tWhile (tTest (tOp rLtA (tVar 2) (tVar 0))) (tSeq (tAug 1 (tC (.int 1)) rAddI)
    (tAsg (tOp rAddA (tOp rMulB (tC (.int 2)) (tVar 2)) (tC (.int 1))) (gName 2))))
    (tRet (tVar 1))))))
def t_need_kind (K : PySem.W.Frag) (cn : Cn) (W : WX) : TS :=
  (tSeq (tIfS (tOr (tNot (tTruth K (tCB (rIsiB K) (tCons (tVar 0) (tCons (tC (.ty "str")) tNil))))) (tTest (tOp (rNotInXT K) (tVar 0) (tC (.ref (cn.ad K_KINDS)))))) (fun _ σ H => tMkO (cn.ad XNoKind) (spInit K ["found"]) [] (tCons (tVar 0) tNil) σ H fun cls d H' => W cls d σ H') tNext)
    (tSeq (tAsg (tIf (tTest (tOp (rEqA K) (tVar 0) (tC (.str "ring")))) (tC (.int 3)) (tC (.int 1))) (gName 3))
    (tIfS (tOr (tNot (tTruth K (tCall (lift K S_is_whole) [] E0 (tCons (tVar 1) (tCons (tVar 3) (tCons (tC (.int 1000)) tNil)))))) (tAnd (tTest (tOp (rNeA K) (tVar 0) (tC (.str "pair")))) (tTest (tOp rGtA (tVar 1) (tVar 2))))) (fun _ σ H => tMkO (cn.ad XNoNumber) (spInit K ["found"]) [] (tCons (tVar 1) tNil) σ H fun cls d H' => W cls d σ H') tNext)))
def t_rows_for_pairs (K : PySem.W.Frag) (cn : Cn) : TS :=
  (tSeq (tAsg (tC (.int 2)) (gName 1))
    (tSeq (tWhile (tTest (tOp rLtA (tOp rDivA (tOp rMulB (tVar 1) (tOp rSubA (tVar 1) (tC (.int 1)))) (tC (.int 2))) (tVar 0))) (tAsg (tOp rAddA (tVar 1) (tC (.int 1))) (gName 1)))
    (tRet (tVar 1))))
def t_why_many (K : PySem.W.Frag) (cn : Cn) (W : WX) : TS :=
  (tSeq (tDrop (tCallS (liftX K cn S_need_kind) (L2.WE W) (tCons (tVar 0) (tCons (tVar 1) (tCons (tC (.int 1000)) tNil)))))
    (tSeq (tIfS (tTest (tOp (rEqA K) (tVar 0) (tC (.str "pair")))) (tRet (tCall (lift K S_rows_for_pairs) [] E0 (tCons (tVar 1) tNil))) tNext)
    (tRet (tVar 1))))
def t_kind_rows (K : PySem.W.Frag) (cn : Cn) (W : WX) : TS :=
  (tSeq (tDrop (tCallS (liftX K cn S_need_kind) (L2.WE W) (tCons (tVar 0) (tCons (tVar 1) (tCons (tC (.int 1000)) tNil)))))
    (tSeq (tIfS (tTest (tOp (rNeA K) (tVar 0) (tC (.str "pair")))) (tRet (tLc (iRng1 (tCons (tVar 1) tNil)) (gName 2) tYes (tCall (liftX K cn S_row_by) [] E0 (tCons (tVar 2) tNil)) [2])) tNext)
    (tSeq (tAsg (tLst tNil) (gName 3))
    (tSeq (tFor (iRng1 (tCons (tCall (lift K S_rows_for_pairs) [] E0 (tCons (tVar 1) tNil)) tNil)) (gName 4) (tDrop (tBM K "list" rExtend (tVar 3) (tCons (tLc (iRng1 (tCons (tVar 4) tNil)) (gName 5) tYes (tTup (tCons (tCall (liftX K cn S_row_by) [] E0 (tCons (tVar 5) tNil)) (tCons (tCall (liftX K cn S_row_by) [] E0 (tCons (tVar 4) tNil)) tNil))) [5]) tNil))))
    (tRet (tSl (rSlA K) (tVar 3) tNoPart (tPart (tVar 1))))))))
def t_kind_far (K : PySem.W.Frag) (cn : Cn) (W : WX) : TS :=
  (tSeq (tAsg (tCallS (liftX K cn S_why_many) (L2.WE W) (tCons (tVar 0) (tCons (tVar 1) tNil))) (gName 4))
    (tSeq tNever
    (tSeq tNever
    (tSeq tNever
    (tSeq tNever
    (tSeq tNever
    (tSeq tNever
    tNever)))))))
def t_kind_web (K : PySem.W.Frag) (cn : Cn) (W : WX) : TS :=
  (tSeq (tDrop (tCallS (liftX K cn S_need_kind) (L2.WE W) (tCons (tVar 0) (tCons (tVar 1) (tCons (tC (.int 12)) tNil)))))
    (tSeq tNever
    (tSeq tNever
    (tSeq tNever
    (tSeq tNever
    tNever)))))
def t_l_cell (K : PySem.W.Frag) (cn : Cn) : TS :=
  (tSeq (tIfS (tTest (tOp rLtA (tVar 1) (tCB (rLenB K) (tCons (tVar 0) tNil)))) (tRet (tOp (rIxB K) (tVar 0) (tVar 1))) tNext)
    (tRet (tOp rAddA (tOp rMulB (tC (.int 7919)) (tVar 1)) (tC (.int 31)))))
def t_l_box (K : PySem.W.Frag) (cn : Cn) : TS :=
  (tRet (tLst (tCons (tCB rMax2 (tCons (tC (.int 0)) (tCons (tOp rSubA (tVar 0) (tOp rPowA (tC (.int 10)) (tC (.int 18)))) tNil))) (tCons (tOp rModA (tVar 0) (tC (.int 2147483647))) (tCons (tC (.int 0)) tNil)))))
def t_l_take (K : PySem.W.Frag) (cn : Cn) : TS :=
  (tSeq (tIfS (tTest (tOp rGtA (tOp (rIxB K) (tVar 0) (tC (.int 0))) (tC (.int 0)))) (tSeq (tAsg (tOp rModA (tOp (rIxB K) (tVar 0) (tC (.int 0))) (tVar 1)) (gName 2))
    (tSeq (tAsg (tOp rDivA (tOp (rIxB K) (tVar 0) (tC (.int 0))) (tVar 1)) (gSub (tVar 0) (tC (.int 0)) rSetB))
    (tRet (tVar 2)))) tNext)
    (tSeq (tAsg (tOp rAddA (tOp (rIxB K) (tVar 0) (tC (.int 2))) (tC (.int 1))) (gSub (tVar 0) (tC (.int 2)) rSetB))
    (tSeq (tAsg (tOp rModA (tOp rMulB (tOp rAddA (tOp (rIxB K) (tVar 0) (tC (.int 1))) (tC (.int 11))) (tOp rAddA (tOp rMulB (tC (.int 2)) (tOp (rIxB K) (tVar 0) (tC (.int 2)))) (tC (.int 5)))) (tC (.int 2147483647))) (gName 3))
    (tSeq (tAsg (tOp rModA (tOp rPowA (tVar 3) (tC (.int 5))) (tC (.int 2147483629))) (gName 4))
    (tSeq (tAsg (tOp rModA (tOp rMulB (tOp rAddA (tVar 4) (tOp rMulB (tC (.int 104729)) (tOp (rIxB K) (tVar 0) (tC (.int 2))))) (tOp rAddA (tVar 4) (tC (.int 7)))) (tC (.int 2147483587))) (gName 4))
    (tRet (tOp rModA (tOp rDivA (tVar 4) (tC (.int 16))) (tVar 1))))))))
def t_l_signs (K : PySem.W.Frag) (cn : Cn) : TS :=
  (tSeq (tAsg (tC (.str "")) (gName 1))
    (tSeq (tWhile (tTest (tOp rGtA (tVar 0) (tC (.int 0)))) (tSeq (tAsg (tOp rAddA (tOp (rIxB K) (tC (.str "01")) (tOp rModA (tOp rSubA (tVar 0) (tC (.int 1))) (tC (.int 2)))) (tVar 1)) (gName 1))
    (tAsg (tOp rDivA (tOp rSubA (tVar 0) (tC (.int 1))) (tC (.int 2))) (gName 0))))
    (tRet (tVar 1))))
def t_l_longest (K : PySem.W.Frag) (cn : Cn) : TS :=
  (tSeq (tAsg (tC (.int 0)) (gName 1))
    (tSeq (tAsg (tC (.int 1)) (gName 2))
    (tSeq (tWhile (tTest (tOp rLtA (tVar 2) (tVar 0))) (tSeq (tAsg (tOp rAddA (tVar 1) (tC (.int 1))) (gName 1))
    (tAsg (tOp rAddA (tOp rMulB (tC (.int 2)) (tVar 2)) (tC (.int 1))) (gName 2))))
    (tRet (tVar 1)))))
def t_l_pairs (K : PySem.W.Frag) (cn : Cn) : TS :=
  (tSeq (tAsg (tLst tNil) (gName 1))
    (tSeq (tAsg (tC (.int 1)) (gName 2))
    (tSeq (tWhile (tTest (tOp rLtA (tCB (rLenB K) (tCons (tVar 1) tNil)) (tVar 0))) (tSeq (tDrop (tBM K "list" rExtend (tVar 1) (tCons (tLc (iRng1 (tCons (tVar 2) tNil)) (gName 3) tYes (tTup (tCons (tVar 3) (tCons (tVar 2) tNil))) [3]) tNil)))
    (tAsg (tOp rAddA (tVar 2) (tC (.int 1))) (gName 2))))
    (tRet (tSl (rSlA K) (tVar 1) tNoPart (tPart (tVar 0)))))))
def t_l_many (K : PySem.W.Frag) (cn : Cn) : TS :=
  (tSeq (tAsg (tIf (tTest (tOp (rEqA K) (tVar 1) (tC (.str "ring")))) (tC (.int 3)) (tC (.int 1))) (gName 2))
    (tSeq (tAsg (tCall (lift K S_l_take) [] E0 (tCons (tVar 0) (tCons (tC (.int 5)) tNil))) (gName 3))
    (tSeq (tIfS (tTest (tOp (rEqA K) (tVar 3) (tC (.int 0)))) (tRet (tOp rAddA (tVar 2) (tCall (lift K S_l_take) [] E0 (tCons (tVar 0) (tCons (tC (.int 4)) tNil))))) tNext)
    (tSeq (tIfS (tTest (tOp (rEqA K) (tVar 3) (tC (.int 1)))) (tRet (tOp rSubA (tC (.int 1000)) (tCall (lift K S_l_take) [] E0 (tCons (tVar 0) (tCons (tC (.int 3)) tNil))))) tNext)
    (tSeq (tIfS (tTest (tOp (rEqA K) (tVar 3) (tC (.int 2)))) (tRet (tOp (rIxB K) (tLst (tCons (tC (.int 7)) (tCons (tC (.int 8)) (tCons (tC (.int 15)) (tCons (tC (.int 16)) (tCons (tC (.int 31)) (tCons (tC (.int 32)) (tCons (tC (.int 63)) (tCons (tC (.int 64)) (tCons (tC (.int 127)) (tCons (tC (.int 511)) tNil))))))))))) (tCall (lift K S_l_take) [] E0 (tCons (tVar 0) (tCons (tC (.int 10)) tNil))))) tNext)
    (tRet (tOp rAddA (tVar 2) (tCall (lift K S_l_take) [] E0 (tCons (tVar 0) (tCons (tOp (rIxB K) (tLst (tCons (tC (.int 30)) (tCons (tC (.int 998)) tNil))) (tOp rSubA (tVar 3) (tC (.int 3)))) tNil))))))))))
def t_l_call (K : PySem.W.Frag) (cn : Cn) (W : WX) : TS :=
  (tSeq (tIfS (tTest (tOp (rEqA K) (tVar 0) (tC (.int 0)))) (tRet (tCallS (liftX K cn S_kind_rows) (L2.WE W) (tCons (tVar 1) (tCons (tVar 2) tNil)))) tNext)
    (tSeq (tIfS (tTest (tOp (rEqA K) (tVar 0) (tC (.int 1)))) (tRet (tCallS (liftX K cn S_kind_web) (L2.WE W) (tCons (tVar 1) (tCons (tVar 2) tNil)))) tNext)
    (tSeq (tIfS (tTest (tOp (rEqA K) (tVar 0) (tC (.int 2)))) (tRet (tCallS (liftX K cn S_kind_far) (L2.WE W) (tCons (tVar 1) (tCons (tVar 2) (tCons (tC .non) (tCons (tC (.str "2")) tNil)))))) tNext)
    (tRet (tCallS (liftX K cn S_why_many) (L2.WE W) (tCons (tVar 1) (tCons (tVar 2) tNil)))))))
def t_l_refused (K : PySem.W.Frag) (cn : Cn) : TS :=
  (tSeq (tAsg (tC .non) (gName 3))
    (tSeq (tTryM K [(.ref (cn.ad XNoKind), some 4, fun a cls d => (tAsg (tTup (tCons (tC (.str "kind")) (tCons (tXfX K a cls d "found" (tVar 4)) tNil))) (gName 3))), (.ref (cn.ad XNoNumber), some 4, fun a cls d => (tAsg (tTup (tCons (tC (.str "number")) (tCons (tXfX K a cls d "found" (tVar 4)) tNil))) (gName 3)))] (fun W => (tAsg (tTup (tCons (tC (.str "told")) (tCons (tCallS (liftX K cn S_l_call) (L2.WE W) (tCons (tVar 0) (tCons (tVar 1) (tCons (tVar 2) tNil)))) tNil))) (gName 3))))
    (tRet (tCB (rReprA K) (tCons (tVar 3) tNil)))))
def t_l_rows_right (K : PySem.W.Frag) (cn : Cn) : TS :=
  (tSeq (tAsg (tLc (iRng1 (tCons (tVar 1) tNil)) (gName 3) tYes (tCall (lift K S_l_signs) [] E0 (tCons (tVar 3) tNil)) [3]) (gName 2))
    (tSeq (tAsg (tVar 1) (gName 4))
    (tSeq (tIfS (tTest (tOp (rEqA K) (tVar 0) (tC (.str "pair")))) (tSeq (tAsg (tCall (lift K S_l_pairs) [] E0 (tCons (tVar 1) tNil)) (gName 5))
    (tSeq (tAsg (tOp rAddA (tOp (rIxB K) (tOp (rIxB K) (tVar 5) (tUn uNegA (tC (.int 1)))) (tC (.int 1))) (tC (.int 1))) (gName 4))
    (tAsg (tLc (iAny K (tVar 5)) (gSeq K 2 (gCons (gName 6) (gCons (gName 7) gNil))) tYes (tTup (tCons (tCall (lift K S_l_signs) [] E0 (tCons (tVar 6) tNil)) (tCons (tCall (lift K S_l_signs) [] E0 (tCons (tVar 7) tNil)) tNil))) [6, 7]) (gName 2)))) tNext)
    (tSeq (tFor (iRng1 (tCons (tC (.int 2)) tNil)) (gName 8) (tSeq (tAsg (tCall (liftX K cn S_kind_rows) [] E0 (tCons (tVar 0) (tCons (tVar 1) tNil))) (gName 9))
    (tSeq (tIfS (tOr (tNot (tTruth K (tCB (rIsiB K) (tCons (tVar 9) (tCons (tC (.ty "list")) tNil))))) (tTest (tOp (rNeA K) (tVar 9) (tVar 2)))) (tRet (tC (.bl false))) tNext)
    (tDrop (tBM0 K "list" rClear (tVar 9))))))
    (tSeq (tIfS (tOr (tTest (tOp (rNeA K) (tCB (rReprA K) (tCons (tCall (liftX K cn S_why_many) [] E0 (tCons (tVar 0) (tCons (tVar 1) tNil))) tNil)) (tCB (rReprA K) (tCons (tVar 4) tNil)))) (tAnd (tTest (tOp (rEqA K) (tVar 0) (tC (.str "pair")))) (tTest (tOp rGeA (tOp rDivA (tOp rMulB (tOp rSubA (tVar 4) (tC (.int 1))) (tOp rSubA (tVar 4) (tC (.int 2)))) (tC (.int 2))) (tVar 1))))) (tRet (tC (.bl false))) tNext)
    (tSeq (tAsg (tCB (rLenB K) (tCons (tCall (lift K S_l_signs) [] E0 (tCons (tOp rSubA (tVar 4) (tC (.int 1))) tNil)) tNil)) (gName 10))
    (tRet (tAndV (tOp (rEqA K) (tVar 10) (tCall (lift K S_l_longest) [] E0 (tCons (tVar 4) tNil))) (tOp (rEqA K) (tCB (rReprA K) (tCons (tCall (liftX K cn S_least_signs) [] E0 (tCons (tCall (liftX K cn S_why_many) [] E0 (tCons (tVar 0) (tCons (tVar 1) tNil))) tNil)) tNil)) (tCB (rReprA K) (tCons (tVar 10) tNil)))))))))))
def t_l_refusals_right (K : PySem.W.Frag) (cn : Cn) : TS :=
  (tSeq (tAsg (tOp (rIxB K) (tC (.str "abcdefghijklmnopqrstuvwxyz")) (tCall (lift K S_l_take) [] E0 (tCons (tVar 0) (tCons (tC (.int 26)) tNil)))) (gName 3))
    (tSeq (tAsg (tCall (lift K S_l_take) [] E0 (tCons (tVar 0) (tCons (tC (.int 4)) tNil))) (gName 4))
    (tSeq (tAsg (tLst (tCons (tOp rAddA (tVar 1) (tVar 3)) (tCons (tOp rAddA (tSl (rSlA K) (tVar 1) tNoPart (tPart (tVar 4))) (tSl (rSlA K) (tVar 1) (tPart (tOp rAddA (tVar 4) (tC (.int 1)))) tNoPart)) (tCons (tOp rAddA (tOp rAddA (tSl (rSlA K) (tVar 1) tNoPart (tPart (tVar 4))) (tVar 3)) (tSl (rSlA K) (tVar 1) (tPart (tOp rAddA (tVar 4) (tC (.int 1)))) tNoPart)) (tCons (tBM0 K "str" rUpperA (tVar 1)) (tCons (tC (.str "")) (tCons (tC .non) tNil))))))) (gName 5))
    (tSeq (tAsg (tOp rAddA (tVar 5) (tLst (tCons (tLst (tCons (tVar 1) tNil)) (tCons (tTup (tCons (tVar 1) tNil)) (tCons (tC (.bl true)) (tCons (tC (.int 0)) (tCons tDNewK (tCons (tOp rAddA (tVar 1) (tC (.str " "))) tNil)))))))) (gName 5))
    (tSeq (tAsg (tLc (iAny K (tVar 5)) (gName 7) (tTest (tOp (rNotInXT K) (tVar 7) (tTup (tCons (tC (.str "path")) (tCons (tC (.str "star")) (tCons (tC (.str "ring")) (tCons (tC (.str "pair")) tNil))))))) (tVar 7) [7]) (gName 6))
    (tSeq (tAsg (tOp (rIxB K) (tVar 6) (tCall (lift K S_l_take) [] E0 (tCons (tVar 0) (tCons (tCB (rLenB K) (tCons (tVar 6) tNil)) tNil)))) (gName 8))
    (tSeq (tAsg (tOp (rIxB K) (tLst (tCons (tC (.int 0)) (tCons (tC (.int 2)) tNil))) (tCB rIntA (tCons (tOp (rEqA K) (tVar 1) (tC (.str "ring"))) tNil))) (gName 9))
    (tSeq (tAsg (tOp (rIxB K) (tLst (tCons (tVar 9) (tCons (tC (.int 1001)) (tCons (tUn uNegA (tC (.int 1))) (tCons (tC (.bl true)) (tCons (tC .non) (tCons (tC (.str "5")) (tCons (tLst (tCons (tC (.int 5)) tNil)) (tCons (tOp rPowA (tC (.int 10)) (tC (.int 29))) (tCons (tC (.bl false)) tNil)))))))))) (tCall (lift K S_l_take) [] E0 (tCons (tVar 0) (tCons (tC (.int 9)) tNil)))) (gName 10))
    (tSeq (tFor (iRng1 (tCons (tC (.int 4)) tNil)) (gName 11) (tSeq (tIfS (tOr (tTest (tOp (rNeA K) (tCall (lift K S_l_refused) [] E0 (tCons (tVar 11) (tCons (tVar 8) (tCons (tVar 10) tNil)))) (tCB (rReprA K) (tCons (tTup (tCons (tC (.str "kind")) (tCons (tVar 8) tNil))) tNil)))) (tTest (tOp (rNeA K) (tCall (lift K S_l_refused) [] E0 (tCons (tVar 11) (tCons (tVar 8) (tCons (tVar 2) tNil)))) (tCB (rReprA K) (tCons (tTup (tCons (tC (.str "kind")) (tCons (tVar 8) tNil))) tNil))))) (tRet (tC (.bl false))) tNext)
    (tIfS (tTest (tOp (rNeA K) (tCall (lift K S_l_refused) [] E0 (tCons (tVar 11) (tCons (tVar 1) (tCons (tVar 10) tNil)))) (tCB (rReprA K) (tCons (tTup (tCons (tC (.str "number")) (tCons (tVar 10) tNil))) tNil)))) (tRet (tC (.bl false))) tNext)))
    (tRet (tC (.bl true))))))))))))
def t_law (K : PySem.W.Frag) (cn : Cn) : TS :=
  (tSeq (tFor (iRng1 (tCons (tCB rMax2 (tCons (tC (.int 2)) (tCons (tCB rMin2 (tCons (tC (.int 6)) (tCons (tCB (rLenB K) (tCons (tVar 0) tNil)) tNil))) tNil))) tNil)) (gName 1) (tSeq (tAsg (tCall (lift K S_l_box) [] E0 (tCons (tCall (lift K S_l_cell) [] E0 (tCons (tVar 0) (tCons (tVar 1) tNil))) tNil)) (gName 2))
    (tSeq (tAsg (tOp (rIxB K) (tLst (tCons (tC (.str "path")) (tCons (tC (.str "star")) (tCons (tC (.str "ring")) (tCons (tC (.str "pair")) tNil))))) (tCall (lift K S_l_take) [] E0 (tCons (tVar 2) (tCons (tC (.int 4)) tNil)))) (gName 3))
    (tSeq (tAsg (tCall (lift K S_l_many) [] E0 (tCons (tVar 2) (tCons (tVar 3) tNil))) (gName 4))
    (tIfS (tOr (tNot (tTruth K (tCall (lift K S_l_refusals_right) [] E0 (tCons (tVar 2) (tCons (tVar 3) (tCons (tVar 4) tNil)))))) (tNot (tTruth K (tCall (lift K S_l_rows_right) [] E0 (tCons (tVar 3) (tCons (tVar 4) tNil)))))) (tRet (tC (.bl false))) tNext)))))
    (tRet (tC (.bl true))))
structure XF (K : PySem.W.Frag) (cn : Cn) : Prop where
  all_NoPlaces : ExcAll K (cn.ad XNoPlaces) (cn.fl XNoPlaces)
  fl_NoPlaces : cn.fl XNoPlaces = (["found"] : List Str)
  ex_NoPlaces : PySem.W.exmOne K (.ref (cn.ad XNoPlaces)) (.ref cn.bs) = some true
  exm_NoPlaces_NoNumber : PySem.W.exmOne K (.ref (cn.ad XNoPlaces)) (.ref (cn.ad XNoNumber)) = some false
  exm_NoPlaces_NoKind : PySem.W.exmOne K (.ref (cn.ad XNoPlaces)) (.ref (cn.ad XNoKind)) = some false
  all_NoName : ExcAll K (cn.ad XNoName) (cn.fl XNoName)
  fl_NoName : cn.fl XNoName = (["found"] : List Str)
  ex_NoName : PySem.W.exmOne K (.ref (cn.ad XNoName)) (.ref cn.bs) = some true
  exm_NoName_NoNumber : PySem.W.exmOne K (.ref (cn.ad XNoName)) (.ref (cn.ad XNoNumber)) = some false
  exm_NoName_NoKind : PySem.W.exmOne K (.ref (cn.ad XNoName)) (.ref (cn.ad XNoKind)) = some false
  all_Twice : ExcAll K (cn.ad XTwice) (cn.fl XTwice)
  fl_Twice : cn.fl XTwice = (["found"] : List Str)
  ex_Twice : PySem.W.exmOne K (.ref (cn.ad XTwice)) (.ref cn.bs) = some true
  exm_Twice_NoNumber : PySem.W.exmOne K (.ref (cn.ad XTwice)) (.ref (cn.ad XNoNumber)) = some false
  exm_Twice_NoKind : PySem.W.exmOne K (.ref (cn.ad XTwice)) (.ref (cn.ad XNoKind)) = some false
  all_NoTies : ExcAll K (cn.ad XNoTies) (cn.fl XNoTies)
  fl_NoTies : cn.fl XNoTies = (["found"] : List Str)
  ex_NoTies : PySem.W.exmOne K (.ref (cn.ad XNoTies)) (.ref cn.bs) = some true
  exm_NoTies_NoNumber : PySem.W.exmOne K (.ref (cn.ad XNoTies)) (.ref (cn.ad XNoNumber)) = some false
  exm_NoTies_NoKind : PySem.W.exmOne K (.ref (cn.ad XNoTies)) (.ref (cn.ad XNoKind)) = some false
  all_NoTie : ExcAll K (cn.ad XNoTie) (cn.fl XNoTie)
  fl_NoTie : cn.fl XNoTie = (["found"] : List Str)
  ex_NoTie : PySem.W.exmOne K (.ref (cn.ad XNoTie)) (.ref cn.bs) = some true
  exm_NoTie_NoNumber : PySem.W.exmOne K (.ref (cn.ad XNoTie)) (.ref (cn.ad XNoNumber)) = some false
  exm_NoTie_NoKind : PySem.W.exmOne K (.ref (cn.ad XNoTie)) (.ref (cn.ad XNoKind)) = some false
  all_NoPlace : ExcAll K (cn.ad XNoPlace) (cn.fl XNoPlace)
  fl_NoPlace : cn.fl XNoPlace = (["found"] : List Str)
  ex_NoPlace : PySem.W.exmOne K (.ref (cn.ad XNoPlace)) (.ref cn.bs) = some true
  exm_NoPlace_NoNumber : PySem.W.exmOne K (.ref (cn.ad XNoPlace)) (.ref (cn.ad XNoNumber)) = some false
  exm_NoPlace_NoKind : PySem.W.exmOne K (.ref (cn.ad XNoPlace)) (.ref (cn.ad XNoKind)) = some false
  all_Loop : ExcAll K (cn.ad XLoop) (cn.fl XLoop)
  fl_Loop : cn.fl XLoop = (["found"] : List Str)
  ex_Loop : PySem.W.exmOne K (.ref (cn.ad XLoop)) (.ref cn.bs) = some true
  exm_Loop_NoNumber : PySem.W.exmOne K (.ref (cn.ad XLoop)) (.ref (cn.ad XNoNumber)) = some false
  exm_Loop_NoKind : PySem.W.exmOne K (.ref (cn.ad XLoop)) (.ref (cn.ad XNoKind)) = some false
  all_NoLength : ExcAll K (cn.ad XNoLength) (cn.fl XNoLength)
  fl_NoLength : cn.fl XNoLength = (["found"] : List Str)
  ex_NoLength : PySem.W.exmOne K (.ref (cn.ad XNoLength)) (.ref cn.bs) = some true
  exm_NoLength_NoNumber : PySem.W.exmOne K (.ref (cn.ad XNoLength)) (.ref (cn.ad XNoNumber)) = some false
  exm_NoLength_NoKind : PySem.W.exmOne K (.ref (cn.ad XNoLength)) (.ref (cn.ad XNoKind)) = some false
  all_NoNumber : ExcAll K (cn.ad XNoNumber) (cn.fl XNoNumber)
  fl_NoNumber : cn.fl XNoNumber = (["found"] : List Str)
  ex_NoNumber : PySem.W.exmOne K (.ref (cn.ad XNoNumber)) (.ref cn.bs) = some true
  exm_NoNumber_NoNumber : PySem.W.exmOne K (.ref (cn.ad XNoNumber)) (.ref (cn.ad XNoNumber)) = some true
  exm_NoNumber_NoKind : PySem.W.exmOne K (.ref (cn.ad XNoNumber)) (.ref (cn.ad XNoKind)) = some false
  all_NoSigns : ExcAll K (cn.ad XNoSigns) (cn.fl XNoSigns)
  fl_NoSigns : cn.fl XNoSigns = (["found"] : List Str)
  ex_NoSigns : PySem.W.exmOne K (.ref (cn.ad XNoSigns)) (.ref cn.bs) = some true
  exm_NoSigns_NoNumber : PySem.W.exmOne K (.ref (cn.ad XNoSigns)) (.ref (cn.ad XNoNumber)) = some false
  exm_NoSigns_NoKind : PySem.W.exmOne K (.ref (cn.ad XNoSigns)) (.ref (cn.ad XNoKind)) = some false
  all_NoKind : ExcAll K (cn.ad XNoKind) (cn.fl XNoKind)
  fl_NoKind : cn.fl XNoKind = (["found"] : List Str)
  ex_NoKind : PySem.W.exmOne K (.ref (cn.ad XNoKind)) (.ref cn.bs) = some true
  exm_NoKind_NoNumber : PySem.W.exmOne K (.ref (cn.ad XNoKind)) (.ref (cn.ad XNoNumber)) = some false
  exm_NoKind_NoKind : PySem.W.exmOne K (.ref (cn.ad XNoKind)) (.ref (cn.ad XNoKind)) = some true
  all_Tied : ExcAll K (cn.ad XTied) (cn.fl XTied)
  fl_Tied : cn.fl XTied = (["other", "one"] : List Str)
  ex_Tied : PySem.W.exmOne K (.ref (cn.ad XTied)) (.ref cn.bs) = some true
  exm_Tied_NoNumber : PySem.W.exmOne K (.ref (cn.ad XTied)) (.ref (cn.ad XNoNumber)) = some false
  exm_Tied_NoKind : PySem.W.exmOne K (.ref (cn.ad XTied)) (.ref (cn.ad XNoKind)) = some false
  k_KINDS : KTup K (cn.ad K_KINDS) ["path", "star", "ring", "pair"]

local macro_rules | `(tactic| walk_at "d1") => `(tactic| first
  | (with_reducible refine' w_seq ?_)
  | (with_reducible refine' w_asg ?_)
  | (with_reducible refine' w_if ?_)
  | (with_reducible refine' w_ret ?_)
  | (with_reducible refine' w_retN ?_)
  | (with_reducible refine' w_next ?_)
  | (with_reducible refine' w_drop ?_)
  | (with_reducible refine' w_parN ?_)
  | ((with_reducible refine' w_augN opd_addI _ ?h ?q); (case h => rfl))
  | ((with_reducible refine' we_var ?h ?q); (case h => rfl))
  | (with_reducible refine' we_ci ?_)
  | (with_reducible refine' we_cs ?_)
  | (with_reducible refine' we_cb' ?_)
  | (with_reducible refine' we_cn ?_)
  | (with_reducible refine' we_cp ?_)
  | (with_reducible refine' we_cb cad_reprA ?_)
  | (with_reducible refine' we_ct ?_)
  | (with_reducible refine' wa_nil ?_)
  | (with_reducible refine' wa_cons ?_)
  | ((with_reducible refine' wg_nameN ?h ?h2 ?q); (case h => rfl); (case h2 => ((dsimp only [backAs, DL.fill, clr, frz, List.set_cons_zero, List.set_cons_succ, Int.reduceToNat]) <;> rfl)))
  | (with_reducible refine' wg_setLN ?_)
  | ((with_reducible refine' ex_ownl ?h ?q); (case h => rfl))
  | (with_reducible refine' wg_s2t ?_)
  | (with_reducible refine' wg_s2l ?_)
  | (with_reducible refine' wg_s2o ?_)
  | (with_reducible refine' wg_s3t ?_)
  | (with_reducible refine' wg_s3l ?_)
  | (with_reducible refine' wg_s3o ?_)
  | (with_reducible refine' we_call ?_)
  | (with_reducible refine' we_append ?_)
  | ((with_reducible refine' we_mat ?h ?q); (case h => rfl))
  | (with_reducible refine' we_op opd_addA' ?_)
  | (with_reducible refine' we_op opd_subA ?_)
  | (with_reducible refine' we_op opd_mulB ?_)
  | (with_reducible refine' we_op opd_divA ?_)
  | (with_reducible refine' we_op opd_modA ?_)
  | (with_reducible refine' we_op opd_powA ?_)
  | (with_reducible refine' we_op opd_shlA ?_)
  | (with_reducible refine' we_op opd_shrA ?_)
  | (with_reducible refine' we_op opd_ltA ?_)
  | (with_reducible refine' we_op opd_leA ?_)
  | (with_reducible refine' we_op opd_gtA ?_)
  | (with_reducible refine' we_op opd_geA ?_)
  | (with_reducible refine' we_op opd_eq ?_)
  | (with_reducible refine' we_op opd_eqB ?_)
  | (with_reducible refine' we_op opd_neB ?_)
  | (with_reducible refine' we_op opd_ne ?_)
  | (with_reducible refine' we_op opd_isNA ?_)
  | (with_reducible refine' we_op opd_notNA ?_)
  | (with_reducible refine' we_op opd_isB ?_)
  | (with_reducible refine' we_op opd_notB ?_)
  | (with_reducible refine' we_op opd_ixC ?_)
  | (with_reducible refine' we_op opd_inX ?_)
  | (with_reducible refine' we_op opd_notInX ?_)
  | (with_reducible refine' we_op opd_inCI ?_)
  | (with_reducible refine' we_op opd_inCN ?_)
  | (with_reducible refine' we_cb cad_isiB ?_)
  | (with_reducible refine' we_cb cad_listB ?_)
  | (with_reducible refine' we_cb cad_dict ?_)
  | (with_reducible refine' we_cb cad_maxL ?_)
  | (with_reducible refine' we_listVals ?_)
  | (with_reducible refine' we_popAt ?_)
  | (with_reducible refine' we_insert ?_)
  | (with_reducible refine' we_pop0 ?_)
  | (with_reducible refine' we_clear0 ?_)
  | (with_reducible refine' we_bm0 med_upper ?_)
  | (with_reducible refine' we_bm med_index ?_)
  | (with_reducible refine' we_bm med_split ?_)
  | ((with_reducible refine' wg_setM ?h1 ?h2 ?q); (case h1 => rfl); (case h2 => rfl))
  | (with_reducible refine' wg_setB ?_)
  | ((with_reducible refine' ex_setBL ?h1 ?h2 ?q); (case h1 => rfl); (case h2 => rfl))
  | (with_reducible refine' we_negA ?_)
  | (with_reducible refine' we_lst ?_)
  | (with_reducible refine' we_tup ?_)
  | (with_reducible refine' we_dnew ?_)
  | (with_reducible refine' we_dnewT ?_)
  | (with_reducible refine' we_get1 ?_)
  | (with_reducible refine' we_extend ?_)
  | (with_reducible refine' we_cb cad_sum ?_)
  | (with_reducible refine' we_cb cad_minL ?_)
  | (with_reducible refine' we_minD ?_)
  | (with_reducible refine' we_maxD ?_)
  | (with_reducible refine' we_cb cad_sortI ?_)
  | (with_reducible refine' we_cb cad_sortB ?_)
  | (with_reducible refine' we_cb cad_isiC ?_)
  | ((with_reducible refine' ex_ext ?h1 ?h2 ?q); (case h1 => rfl); (case h2 => first | omega | (simp only [List.length_append, List.length_map, List.length_range, List.length_cons, List.length_nil] at *; omega)))
  | (with_reducible refine' we_sl ?_)
  | (with_reducible refine' wo_no ?_)
  | (with_reducible refine' wo_part ?_)
  | (with_reducible refine' we_cb cad_lenB ?_)
  | (with_reducible refine' we_cb cad_max2 ?_)
  | (with_reducible refine' we_cb cad_min2 ?_)
  | (with_reducible refine' we_cb cad_int ?_)
  | (with_reducible refine' we_cb cad_str ?_)
  | (with_reducible refine' we_cb cad_all ?_)
  | (with_reducible refine' we_cb cad_any ?_)
  | (with_reducible refine' we_cb cad_list ?_)
  | (with_reducible refine' we_cb cad_tuple ?_)
  | (with_reducible refine' we_cb cad_divmod ?_)
  | (with_reducible refine' we_revL ?_)
  | (with_reducible refine' we_bm med_find3 ?_)
  | (with_reducible refine' ex_find3 ?_)
  | ((with_reducible refine' ex_vm2 ?h1 ?h2 ?h3 ?q); (case h1 => first | rfl | exact view_bor rfl); (case h2 => first | rfl | exact view_bor rfl); (case h3 => first | rfl | exact view_bor rfl))
  | ((with_reducible refine' ex_divmod ?h ?q); (case h => exact ⟨by omega, by omega⟩))
  | ((with_reducible refine' ex_rev ?h ?q); (case h => first | rfl | exact view_bor rfl))
  | (with_reducible refine' dIntC_b ?_)
  | (with_reducible refine' wt_test ?_)
  | (with_reducible refine' wt_truth ?_)
  | (with_reducible refine' wt_and ?_)
  | (with_reducible refine' wt_or ?_)
  | (with_reducible refine' wt_not ?_)
  | (with_reducible refine' wt_yes ?_)
  | (with_reducible refine' we_andV ?_)
  | (with_reducible refine' we_orV ?_)
  | (with_reducible refine' we_notV ?_)
  | (with_reducible refine' we_if ?_)
  | (with_reducible refine' we_chain opd_leA opd_leA ?_)
  | (with_reducible refine' we_chain opd_ltA opd_ltA ?_)
  | (with_reducible refine' we_chain opd_ltA opd_leA ?_)
  | (with_reducible refine' we_chain opd_leA opd_ltA ?_)
  | (with_reducible refine' dInt0_i ?_)
  | (with_reducible refine' dAdd_i ?_)
  | (with_reducible refine' dAddI_i ?_)
  | ((with_reducible refine' dEq_sI ?h ?q); (case h => rfl))
  | ((with_reducible refine' dEq_sN ?h ?q); (case h => rfl))
  | ((with_reducible refine' dEqB_sI ?h ?q); (case h => rfl))
  | ((with_reducible refine' dEqB_sN ?h ?q); (case h => rfl))
  | (with_reducible refine' dIsB_I ?_)
  | (with_reducible refine' dIsB_N ?_)
  | (with_reducible refine' dIsN_I ?_)
  | (with_reducible refine' dIsN_N ?_)
  | ((with_reducible refine' dPow_ ?h1 ?h2 ?q); (case h1 => first | ((dsimp only [Int.reduceToNat, Int.reducePow]) <;> rfl) | rfl); (case h2 => first | exact ⟨by decide, by decide, by decide⟩ | exact ⟨by omega, by omega, by omega⟩))
  | ((with_reducible refine' dInt_i ?h ?q); (case h => first | omega | (dsimp only; omega) | exact cdiv_ok (by omega) (by omega) | assumption | exact ⟨by decide, by decide, by decide⟩ | exact ⟨by omega, by omega, by omega⟩))
  | ((with_reducible refine' dMul_i ?h ?q); (case h => first | (left; left; exact ⟨by omega, by omega⟩) | (left; right; exact ⟨by omega, by omega⟩)))
  | (with_reducible refine' ex_trb ?_)
  | (with_reducible refine' ex_bl ?_)
  | (with_reducible refine' ex_int ?_)
  | (with_reducible refine' ex_two ?_)
  | ((with_reducible refine' ex_op ?h1 ?h2 ?q); (case h1 => first | rfl | exact view_bor rfl); (case h2 => first | rfl | exact view_bor rfl))
  | ((with_reducible refine' ex_dat ?h1 ?q); (case h1 => rfl))
  | (with_reducible refine' ex_bor ?_)
  | ((with_reducible refine' ex_setN ?h1 ?h2 ?q); (case h1 => rfl); (case h2 => rfl))
  | ((with_reducible refine' ex_appN ?h1 ?h2 ?q); (case h1 => rfl); (case h2 => first | omega | (simp only [List.length_append, List.length_map, List.length_range, List.length_cons, List.length_nil] at *; omega)))
  | ((with_reducible refine' ex_sl ?h1 ?q); (case h1 => rfl))
  | (with_reducible refine' ex_par ?_)
  | ((with_reducible refine' all_eqN ?h2 ?q); (case h2 => ((dsimp only [backAs, DL.fill, clr, frz, List.set_cons_zero, List.set_cons_succ, Int.reduceToNat]) <;> rfl)))
  | ((with_reducible refine' ex_call ?h1 ?h2 ?h3 ?q); (case h1 => repeat first | exact toAs_nil | apply toAs_d | apply toAs_b rfl); (case h2 => first | exact List.nodup_nil | exact List.nodup_singleton _ | simp [owned]); (case h3 => first | exact fun _ => rfl | exact fun h => nomatch h))
  | ((with_reducible refine' ex_mu1 ?h ?q); (case h => rfl))
  | ((with_reducible refine' dIxC_l ?h ?q); (case h => rfl))
  | ((with_reducible refine' dIxC_u ?h ?q); (case h => rfl))
  | (with_reducible refine' dInC_sI ?_)
  | (with_reducible refine' dInC_sN ?_)
  | ((with_reducible refine' ex_lsd ?h1 ?h2 ?q); (case h1 => repeat first | exact datas_nil | apply datas_cons); (case h2 => first | exact Nat.le_of_ble_eq_true rfl | simp))
  | ((with_reducible refine' ex_vs1 ?h1 ?q); (case h1 => first | rfl | exact view_bor rfl))
  | ((with_reducible refine' ex_vs2 ?h1 ?h2 ?q); (case h1 => first | rfl | exact view_bor rfl); (case h2 => first | rfl | exact view_bor rfl))
  | ((with_reducible refine' ex_vs3 ?h1 ?h2 ?h3 ?q); (case h1 => first | rfl | exact view_bor rfl); (case h2 => first | rfl | exact view_bor rfl); (case h3 => first | rfl | exact view_bor rfl))
  | ((with_reducible refine' ex_isi ?h1 ?q); (case h1 => first | (exact isi_int (by first | rfl | assumption)) | (exact isi_bl (by first | rfl | assumption)) | (exact isi_str (by first | rfl | assumption))))
  | ((with_reducible refine' ex_isiB ?h1 ?q); (case h1 => first | exact isi_lst | exact isi_tup | exact isi_dct | exact isi_st | exact isi2_lst | exact isi2_tup | (exact isi_int (by first | rfl | assumption)) | (exact isi_bl (by first | rfl | assumption)) | (exact isi_str (by first | rfl | assumption))))
  | ((with_reducible refine' ex_lenB ?h1 ?h2 ?q); (case h1 => first | assumption | trivial | (show _ ≤ _; omega) | (show _ ≤ _; decide +kernel)); (case h2 => rfl))
  | (with_reducible refine' we_bm med_find ?_)
  | (with_reducible refine' we_bm med_join ?_)
  | ((with_reducible refine' ex_ty ?h1 ?h2 ?q); (case h1 => first | rfl | exact view_bor rfl); (case h2 => rfl))
  | ((with_reducible refine' ex_vm1 ?h1 ?h2 ?q); (case h1 => first | rfl | exact view_bor rfl); (case h2 => first | rfl | exact view_bor rfl))
  | (with_reducible refine' ex_find ?_)
  | (show ∀ _ : Addr, _; intro _)
  | ((with_reducible refine' ex_view ?h1 ?q); (case h1 => rfl))
  | ((refine' ex_appN ?h1 ?h2 ?q); (case h1 => rfl); (case h2 => first | omega | (simp only [List.length_append, List.length_map, List.length_range, List.length_cons, List.length_nil] at *; omega)))
  | (with_reducible refine' br_t ?_)
  | (with_reducible refine' br_f ?_)
  | (with_reducible refine' br_not (br_t ?_))
  | (with_reducible refine' br_not (br_f ?_)))
local macro_rules | `(tactic| walk_at "d0") => `(tactic| dsimp only [List.cons_append, List.nil_append])
local macro_rules | `(tactic| walk_at "d") => `(tactic| repeat walk_at "d1")
local macro_rules | `(tactic| walk_at "ds") => `(tactic| dsimp only [isIntD, isBlD, isStrD, DL.isNon, id, List.set_cons_zero, List.set_cons_succ])
local macro_rules | `(tactic| walk_at "k") => `(tactic| dsimp only [backAs, DL.fill, clr, frz, List.set_cons_zero, List.set_cons_succ])

local macro_rules | `(tactic| walk_at "x") => `(tactic| first | (with_reducible refine' br_f (w_next ?_)) | (with_reducible refine' br_t (w_next ?_)) | (with_reducible refine' w_next ?_) | skip)
local macro_rules | `(tactic| walk_at "i") => `(tactic| repeat ((fail_if_success (with_reducible refine' w_if ?_)); walk_at "d1"))
local macro_rules | `(tactic| walk_at "t") => `(tactic| repeat ((fail_if_success (with_reducible refine' wg_setB ?_)); walk_at "d1"))
local macro_rules | `(tactic| walk_at "l") => `(tactic| repeat ((fail_if_success (with_reducible refine' we_lst ?_)); walk_at "d1"))
local macro_rules | `(tactic| walk_at "p") => `(tactic| repeat ((fail_if_success (with_reducible refine' w_drop ?_)); walk_at "d1"))
local macro_rules | `(tactic| walk_at "q") => `(tactic| repeat ((fail_if_success (with_reducible refine' w_seq ?_)); walk_at "d1"))

theorem br_yes {p P Q : Prop} [Decidable p] (h : p) (q : P) : (decide p = true → P) ∧ (decide p = false → Q) := ⟨fun _ => q, fun z => absurd h (of_decide_eq_false z)⟩
theorem br_no {p P Q : Prop} [Decidable p] (h : ¬ p) (q : Q) : (decide p = true → P) ∧ (decide p = false → Q) := ⟨fun z => absurd (of_decide_eq_true z) h, fun _ => q⟩
theorem br_nyes {p P Q : Prop} [Decidable p] (h : p) (q : Q) : ((!decide p) = true → P) ∧ ((!decide p) = false → Q) := br_not (br_yes h q)
theorem br_nno {p P Q : Prop} [Decidable p] (h : ¬ p) (q : P) : ((!decide p) = true → P) ∧ ((!decide p) = false → Q) := br_not (br_no h q)
theorem nm_is {x : Str} (h : nmOk x = true) : 1 ≤ x.length ∧ x.length ≤ 6 ∧ ((tl x).all fun ch => decide (ch ∈ lettersL)) = true := by
  unfold nmOk at h
  rw [Bool.and_eq_true, Bool.and_eq_true, decide_eq_true_eq, decide_eq_true_eq] at h
  exact ⟨h.1.1, h.1.2, h.2⟩
theorem ltr : (Str.ofString "abcdefghijklmnopqrstuvwxyz").cps.toList = lettersL := by decide +kernel
/-! names, as a list or a tuple -/
theorem ns_items (t : Bool) (ns : List Str) : itemsD (nsD t ns) = some (ns.map .str) := by cases t <;> rfl
theorem ns_len (t : Bool) (ns : List Str) : lenB (nsD t ns) = some ns.length := by cases t <;> (show some _ = _; rw [List.length_map])
theorem ns_seq (t : Bool) (ns : List Str) : seqD (nsD t ns) = some (ns.map .str) := by cases t <;> rfl
theorem ns_ok (t : Bool) (ns : List Str) : strOk (nsD t ns) := by cases t <;> trivial
theorem ns_isi (t : Bool) (ns : List Str) : isiB (nsD t ns) (.tup [.ty "list", .ty "tuple"]) = some true := by cases t <;> first | exact isi2_lst | exact isi2_tup
theorem flat_strs : ∀ ns : List Str, (ns.map D.str).all flatD = true
  | [] => rfl
  | n :: ns => by
    rw [List.map_cons, List.all_cons, flat_strs ns]
    rfl
theorem inD_strs (x : Str) : ∀ ns : List Str, inD (.str x) (ns.map D.str) = decide (x ∈ ns)
  | [] => rfl
  | n :: ns => by
    have ih := inD_strs x ns
    unfold inD at ih ⊢
    rw [List.map_cons, List.any_cons, ih]
    show (decide (n = x) || decide (x ∈ ns)) = decide (x ∈ n :: ns)
    by_cases q : n = x
    · subst q; simp
    · have q2 : x ≠ n := fun z => q z.symm
      simp [q, q2]
theorem in_nsI {t : Bool} {ns : List Str} {x : Str} {k : R → Prop} (h : k (.d (.bl (decide (x ∈ ns))))) : dInC id (.str x) (nsD t ns) k := by
  cases t with
  | true => exact dInC_uI rfl (flat_strs ns) (by rw [inD_strs]; exact h)
  | false => exact dInC_lI rfl (flat_strs ns) (by rw [inD_strs]; exact h)
theorem in_nsN {t : Bool} {ns : List Str} {x : Str} {k : R → Prop} (h : k (.d (.bl (!decide (x ∈ ns))))) : dInC not (.str x) (nsD t ns) k := by
  cases t with
  | true => exact dInC_uN rfl (flat_strs ns) (by rw [inD_strs]; exact h)
  | false => exact dInC_lN rfl (flat_strs ns) (by rw [inD_strs]; exact h)
theorem ix_ns {t : Bool} {ns : List Str} {i : Nat} {x : Str} {k : R → Prop} (h1 : ns[i]? = some x) (h : k (.d (.str x))) : dIxC (nsD t ns) (.int (i : Nat)) k := by
  have e : atI (ns.map D.str) (i : Int) = some (.str x) := atI_nat (by rw [List.getElem?_map, h1]; rfl)
  cases t with
  | true => exact dIxC_u e h
  | false => exact dIxC_l e h
theorem strs_get {ns : List Str} {i : Nat} {d : D} (h : (ns.map D.str)[i]? = some d) : ∃ x, d = .str x ∧ ns[i]? = some x := by
  rw [List.getElem?_map] at h
  cases e : ns[i]? with
  | none => rw [e] at h; cases h
  | some x => rw [e] at h; cases h; exact ⟨x, rfl, rfl⟩
theorem nodup_take {α : Type} [DecidableEq α] {ns : List α} {i : Nat} {x : α} (hn : ns.Nodup) (h : ns[i]? = some x) : x ∉ ns.take i := by
  intro m
  obtain ⟨j, hj, e⟩ := List.mem_iff_getElem.mp m
  rw [List.length_take] at hj
  rw [List.getElem_take] at e
  obtain ⟨hi, e2⟩ := List.getElem?_eq_some_iff.mp h
  exact List.pairwise_iff_getElem.mp (List.nodup_iff_pairwise_ne.mp hn) j i (by omega) hi (by omega) (by rw [e, e2])
/-! dicts -/
theorem getD_none {kds : List (Key × D)} {k : Key} (h : ∀ q ∈ kds, q.1 ≠ k) : DL.getD kds k = none := by
  unfold DL.getD
  rw [List.find?_eq_none.mpr (fun q hq => by simp [h q hq])]
  rfl
theorem putD_new {kds : List (Key × D)} {k : Key} {v : D} (h : ∀ q ∈ kds, q.1 ≠ k) : putD kds k v = kds ++ [(k, v)] := by
  unfold putD
  rw [if_neg]
  intro z
  obtain ⟨q, hq, e⟩ := List.any_eq_true.mp z
  exact h q hq (of_decide_eq_true e)
theorem mergeD_new : ∀ {more acc : List (Key × D)}, (∀ q ∈ more, ∀ r ∈ acc, r.1 ≠ q.1) → (more.map Prod.fst).Nodup → mergeD acc more = acc ++ more
  | [], acc, _, _ => by show acc = acc ++ []; rw [List.append_nil]
  | m :: more, acc, h, n => by
    show mergeD (putD acc m.1 m.2) more = _
    have n' := List.nodup_cons.mp n
    rw [putD_new (h m List.mem_cons_self), mergeD_new (fun q hq r hr => ?_) n'.2, List.append_assoc]
    · rfl
    · rcases List.mem_append.mp hr with z | z
      · exact h q (List.mem_cons_of_mem _ hq) r z
      · rw [List.mem_singleton.mp z]
        exact fun e => n'.1 (by rw [show m.1 = q.1 from e]; exact List.mem_map_of_mem hq)

theorem atI_str {z : Str} {r : Int} {n : Nat} (hn : (tl z).length = n) (h1 : 0 ≤ r) (h2 : r < n) : ∃ ch, atI z.cps.toList r = some ch := by
  obtain ⟨k, rfl⟩ := Int.eq_ofNat_of_zero_le h1
  have hk : k < (tl z).length := by omega
  exact ⟨_, atI_nat (List.getElem?_eq_getElem hk)⟩
theorem signsD_get {z : Str} {i : Nat} {d : D} (h : (signsD z)[i]? = some d) : ∃ ch, d = .str ⟨#[ch]⟩ ∧ (tl z)[i]? = some ch := by
  unfold signsD at h
  rw [List.getElem?_map] at h
  cases e : z.cps.toList[i]? with
  | none => rw [e] at h; cases h
  | some ch => rw [e] at h; cases h; exact ⟨ch, rfl, rfl⟩
def sgn (s : Str) : Nat := s.cps.getD 0 0
def inK (L : List Nat) : D → Option D
  | .str s => some (.bl (decide (sgn s ∈ L)))
  | _ => none
def ifK (L : List Nat) : D → Option D
  | .str s => if sgn s ∈ L then some (.str s) else none
  | _ => none
theorem all_in (z : Str) (L : List Nat) : blsD ((signsD z).filterMap (inK L)) = some ((tl z).map fun ch => decide (ch ∈ L)) := by
  have e : (signsD z).filterMap (inK L) = ((tl z).map fun ch => decide (ch ∈ L)).map D.bl := by
    unfold signsD
    rw [List.filterMap_map, List.map_map]
    show List.filterMap (fun ch => some (D.bl (decide (ch ∈ L)))) (tl z) = _
    generalize tl z = l
    induction l with
    | nil => rfl
    | cons a r ih => simp
  rw [e, blsD_map]
theorem if_len (z : Str) (L : List Nat) : ((signsD z).filterMap (ifK L)).length = ((tl z).filter fun ch => decide (ch ∈ L)).length := by
  unfold signsD
  rw [List.filterMap_map]
  show (List.filterMap (fun ch => if ch ∈ L then some (D.str ⟨#[ch]⟩) else none) (tl z)).length = _
  generalize tl z = l
  induction l with
  | nil => rfl
  | cons a r ih =>
    by_cases h : a ∈ L
    · simp [h, ih]
    · simp [h, ih]
theorem all_map_id (l : List Nat) (L : List Nat) : (l.map fun ch => decide (ch ∈ L)).all id = l.all fun ch => decide (ch ∈ L) := by
  induction l with
  | nil => rfl
  | cons a r ih => simp
def lw (L : List Nat) : List D := L.map fun ch => .str ⟨#[ch]⟩
theorem lw_strs : ∀ L : List Nat, strsD (lw L) = some (L.map fun ch => (⟨#[ch]⟩ : Str))
  | [] => rfl
  | c :: L => by
    show (strsD (lw L)).map _ = _
    rw [lw_strs L]
    rfl
theorem join_ones (L : List Nat) : (Str.join (Str.ofString "") (L.map fun ch => (⟨#[ch]⟩ : Str))).length = L.length := by
  rw [len_tl, tl_join, List.map_map, show tl (Str.ofString "") = [] from by decide +kernel]
  show (joinL [] (L.map fun ch => [ch])).length = _
  have e : ∀ L : List Nat, joinL [] (L.map fun ch => [ch]) = L := by
    intro L
    induction L with
    | nil => rfl
    | cons c L ih =>
      cases L with
      | nil => rfl
      | cons d L =>
        show [c] ++ [] ++ joinL [] ((d :: L).map fun ch => [ch]) = _
        rw [ih]
        rfl
  rw [e]
theorem sum_ones (L : List Nat) : ((L.map fun ch => (⟨#[ch]⟩ : Str)).map (·.length)).sum = L.length := by
  induction L with
  | nil => rfl
  | cons c L ih =>
    simp only [List.map_cons, List.sum_cons, ih, List.length_cons]
    show 1 + L.length = _
    omega
theorem len_app (x y : Str) : (x ++ y).length = x.length + y.length := by
  rw [len_tl, tl_append, List.length_append, ← len_tl, ← len_tl]
theorem lw_snoc (L : List Nat) (ch : Nat) : lw L ++ [.str ⟨#[ch]⟩] = lw (L ++ [ch]) := by
  unfold lw
  rw [List.map_append]
  rfl

theorem ws_l_cell : WsC (Fx := XF) S_l_cell t_l_cell [] := by
  rintro K cn as Φ fx ⟨ns, k, rfl, hl, h⟩
  unfold t_l_cell
  walk_at "d0"
  walk_at "d"
  refine br_d (fun h1 => ?_) (fun h1 => ?_)
  · walk_at "d"
    rw [List.length_map] at h1
    have hk : k < ns.length := by omega
    refine dIxC_r (atI_nat (j := k) (by rw [List.getElem?_map, List.getElem?_eq_getElem hk]; rfl)) ?_
    exact ⟨trivial, h _⟩
  · walk_at "d"
    exact ⟨trivial, h _⟩
theorem ws_l_box : WsC (Fx := XF) S_l_box t_l_box [] := by
  rintro K cn as Φ fx ⟨v, rfl, h⟩
  unfold t_l_box
  walk_at "d0"
  walk_at "d"
  refine ⟨trivial, h _ _ ⟨_, _, _, rfl, ?_, ?_, ?_, ?_⟩⟩ <;> omega
theorem ws_l_take : WsC (Fx := XF) S_l_take t_l_take [.no, .no, .no] := by
  rintro K cn as Φ fx ⟨b, x, n, m, rfl, ⟨x0, x1, x2, rfl, h1, h2, h3, h4⟩, hn, hm, hm2, h⟩
  unfold t_l_take
  walk_at "d0"
  walk_at "d"
  refine br_d (fun h7 => ?_) (fun h7 => ?_)
  · walk_at "d"
    exact ⟨⟨rfl, trivial⟩, h _ _ (Int.emod_nonneg _ (by omega)) (Int.emod_lt_of_pos _ hm) ⟨_, _, _, rfl, h1, h2, h3, by omega⟩⟩
  · walk_at "d"
    exact ⟨⟨rfl, trivial⟩, h _ _ (Int.emod_nonneg _ (by omega)) (Int.emod_lt_of_pos _ hm) ⟨_, _, _, rfl, h1, h2, by omega, by omega⟩⟩
/-- a draw, at a call -/
theorem use_take {P : R → List Sl → Prop} {b : Addr} {x : D} {n : Nat} {m : Int} (hb : BoxD n x) (hn : n < 1000000) (hm : 0 < m) (hm2 : m < 2 ^ 200) (q : ∀ r x', 0 ≤ r → r < m → BoxD (n + 1) x' → P (.d (.int r)) [.own b x', .d (.int m)]) :
    ∀ Ψ : R → List Sl → Prop, (∀ r as', ownOut r → P r as' → Ψ r as') → S_l_take [.own b x, .d (.int m)] Ψ := fun Ψ k => ⟨b, x, n, m, rfl, hb, hn, hm, hm2, fun r x' h1 h2 h3 => k _ _ trivial (q r x' h1 h2 h3)⟩
theorem BoxD.mono {n m : Nat} {x : D} (h : BoxD n x) (e : n ≤ m) : BoxD m x := by
  obtain ⟨x0, x1, x2, h0, h1, h2, h3, h4⟩ := h
  exact ⟨x0, x1, x2, h0, h1, h2, h3, by omega⟩

theorem ws_is_whole : WsC (Fx := XF) S_is_whole t_is_whole [] := by
  rintro K cn as Φ fx ⟨x, lo, hi, rfl, ht, h⟩
  unfold t_is_whole
  walk_at "d0"
  walk_at "d"
  refine br_not (br (fun h1 => ?_) (fun h1 => ?_))
  · walk_at "d"
    refine br (fun h2 => ?_) (fun h2 => ?_)
    · walk_at "d"
      cases x <;> first | (cases h2; done) | exact ⟨trivial, h⟩
    · cases x <;> first | (cases h1; done) | (cases h2; done) | skip
      rename_i i
      walk_at "d"
      refine br_d (fun h3 => ?_) (fun h3 => ?_)
      · walk_at "d"
        have e : decide (i ≤ hi) = wholeB (.int i) lo hi := by simp [wholeB, h3]
        rw [e]
        exact ⟨trivial, h⟩
      · have e : false = wholeB (.int i) lo hi := by simp [wholeB, h3]
        rw [e]
        exact ⟨trivial, h⟩
  · walk_at "d"
    cases x <;> first | (cases h1; done) | exact ⟨trivial, h⟩
theorem all_map_in (s : Str) : ((tl s).map fun ch => decide (ch ∈ lettersL)).all id = (tl s).all fun ch => decide (ch ∈ lettersL) := all_map_id _ _
section
variable {P : R → List Sl → Prop} {x : D} {lo hi : Int}
theorem use_is_name (hx : anyD x) (q : P (.d (.bl (nameB x))) [.d x]) :
    ∀ Ψ : R → List Sl → Prop, (∀ r as', ownOut r → P r as' → Ψ r as') → S_is_name [.d x] Ψ := fun Ψ k => ⟨x, rfl, hx, k _ _ trivial q⟩
theorem use_is_whole (h : (tyD x).isSome = true) (q : P (.d (.bl (wholeB x lo hi))) [.d x, .d (.int lo), .d (.int hi)]) :
    ∀ Ψ : R → List Sl → Prop, (∀ r as', ownOut r → P r as' → Ψ r as') → S_is_whole [.d x, .d (.int lo), .d (.int hi)] Ψ := fun Ψ k => ⟨x, lo, hi, rfl, h, k _ _ trivial q⟩
end

theorem bb_zero : bb 0 = [] := by rw [bb]; rfl
theorem bb_pos {n : Nat} (h : n ≠ 0) : bb n = bb ((n - 1) / 2) ++ [48 + (n - 1) % 2] := by rw [bb, dif_neg h]
theorem zo_append {L M : List Nat} : zo (L ++ M) = (zo L && zo M) := List.all_append
theorem zo_one {c : Nat} (h : c = 48 ∨ c = 49) : zo [c] = true := by rcases h with rfl | rfl <;> rfl
theorem bb_zo : ∀ n : Nat, zo (bb n) = true := by
  intro n
  induction n using Nat.strongRecOn with
  | _ n ih =>
    by_cases e : n = 0
    · rw [e, bb_zero]; rfl
    · rw [bb_pos e, zo_append, ih ((n - 1) / 2) (by omega), zo_one (by omega)]
      rfl
theorem tl_strL (L : List Nat) : tl (strL L) = L := rfl
theorem len_strL (L : List Nat) : (strL L).length = L.length := len_tl _
theorem digit_str {d : Nat} (h : d < 10) : Str.ofString (toString ((d : Nat) : Int)) = ⟨#[48 + d]⟩ := str_eq (by
  show tl _ = _
  rw [tl_num, numL_lt h])
theorem join_lw (L : List Nat) : Str.join (Str.ofString "") (L.map fun ch => (⟨#[ch]⟩ : Str)) = strL L := by
  refine str_eq ?_
  show tl _ = L
  rw [tl_join, List.map_map, show tl (Str.ofString "") = [] from by decide +kernel]
  show joinL [] (L.map fun ch => [ch]) = _
  induction L with
  | nil => rfl
  | cons c L ih =>
    cases L with
    | nil => rfl
    | cons d L =>
      show [c] ++ [] ++ joinL [] ((d :: L).map fun ch => [ch]) = _
      rw [ih]
      rfl
theorem bb_long : ∀ n : Nat, LongN (n + 1) (bb n).length := by
  intro n
  induction n using Nat.strongRecOn with
  | _ n ih =>
    by_cases e : n = 0
    · rw [e, bb_zero]; exact ⟨by decide, by decide⟩
    · have h := ih ((n - 1) / 2) (by omega)
      rw [bb_pos e, List.length_append]
      obtain ⟨h1, h2⟩ := h
      have e1 : (n - 1) / 2 + 1 = (n + 1) / 2 := by omega
      rw [e1] at h1 h2
      refine ⟨?_, ?_⟩
      · simp only [List.length_singleton]
        rw [Nat.pow_succ]; omega
      · simp only [List.length_singleton]
        rw [Nat.pow_succ]
        rw [Nat.pow_succ] at h2 ⊢
        omega
theorem long_uniq {m l l' : Nat} (h : LongN m l) (h' : LongN m l') : l = l' := by
  obtain ⟨a, b⟩ := h
  obtain ⟨c, d⟩ := h'
  rcases Nat.lt_trichotomy l l' with z | z | z
  · have := Nat.pow_le_pow_right (n := 2) (by omega) (show l + 1 ≤ l' by omega)
    omega
  · exact z
  · have := Nat.pow_le_pow_right (n := 2) (by omega) (show l' + 1 ≤ l by omega)
    omega
theorem bb_len {n : Nat} (h : n ≤ 5000) : (bb n).length ≤ 12 := by
  obtain ⟨a, b⟩ := bb_long n
  refine Nat.le_of_not_lt fun z => ?_
  have := Nat.pow_le_pow_right (n := 2) (by omega) (show 13 ≤ (bb n).length by omega)
  omega
theorem tri_mono {a b : Nat} (h : a ≤ b) : a * (a - 1) / 2 ≤ b * (b - 1) / 2 := Nat.div_le_div_right (Nat.mul_le_mul h (by omega))
theorem rfp_uniq {n f f' : Nat} (h : RfP n f) (h' : RfP n f') : f = f' := by
  obtain ⟨a, b, c, d⟩ := h
  obtain ⟨a', b', c', d'⟩ := h'
  rcases Nat.lt_trichotomy f f' with z | z | z
  · have := tri_mono (show f ≤ f' - 1 by omega)
    rw [show f' - 1 - 1 = f' - 2 by omega] at this
    omega
  · exact z
  · have := tri_mono (show f' ≤ f - 1 by omega)
    rw [show f - 1 - 1 = f - 2 by omega] at this
    omega
theorem plN_len : ∀ o : Nat, 2 * (plN o).length = o * (o - 1)
  | 0 => rfl
  | o + 1 => by
    have ih := plN_len o
    show 2 * (plN o ++ (List.range o).map fun l => (l, o)).length = _
    rw [List.length_append, List.length_map, List.length_range, Nat.mul_add, ih]
    cases o with
    | zero => rfl
    | succ k =>
      rw [show k + 1 + 1 - 1 = k + 1 from rfl, show k + 1 - 1 = k from rfl, Nat.add_mul (k + 1) 1 (k + 1), Nat.mul_add (k + 1) k 1]
      omega
theorem plN_tri (o : Nat) : (plN o).length = o * (o - 1) / 2 := by
  have := plN_len o
  omega
theorem plN_pre {o : Nat} : ∀ k : Nat, ∃ t, plN (o + k) = plN o ++ t
  | 0 => ⟨[], by rw [Nat.add_zero, List.append_nil]⟩
  | k + 1 => by
    obtain ⟨t, h⟩ := plN_pre (o := o) k
    refine ⟨t ++ (List.range (o + k)).map fun l => (l, o + k), ?_⟩
    rw [show o + (k + 1) = (o + k) + 1 from rfl]
    show plN (o + k) ++ _ = _
    rw [h, List.append_assoc]
theorem prs_take {n f : Nat} (hf : f ≤ 46) (h : n ≤ f * (f - 1) / 2) : (plN f).take n = prsN n := by
  obtain ⟨t, e⟩ := plN_pre (o := f) (46 - f)
  rw [show f + (46 - f) = 46 by omega] at e
  unfold prsN
  rw [e, List.take_append_of_le_length (by rw [plN_tri]; exact h)]
theorem prs_len {n : Nat} (h : n ≤ 1000) : (prsN n).length = n := by
  unfold prsN
  rw [List.length_take, plN_tri]
  omega
theorem plN_mem : ∀ {o : Nat} {q : Nat × Nat}, q ∈ plN o → q.1 < q.2 ∧ q.2 < o
  | 0, q, h => nomatch h
  | o + 1, q, h => by
    rcases List.mem_append.mp (show q ∈ plN o ++ (List.range o).map fun l => (l, o) from h) with z | z
    · have := plN_mem z
      exact ⟨this.1, by omega⟩
    · obtain ⟨l, hl, e⟩ := List.mem_map.mp z
      have := List.mem_range.mp hl
      rw [← e]
      exact ⟨this, Nat.lt_succ_self o⟩
theorem prs_mem {n : Nat} {q : Nat × Nat} (h : q ∈ prsN n) : q.1 < 46 ∧ q.2 < 46 := by
  have := plN_mem (List.mem_of_mem_take h)
  omega
theorem prs_last {n f : Nat} (h1 : 1 ≤ n) (h : RfP n f) : ∃ l, (prsN n)[n - 1]? = some (l, f - 1) := by
  obtain ⟨a, b, c, d⟩ := h
  rw [← prs_take b c]
  obtain ⟨g, rfl⟩ : ∃ g, f = g + 1 := ⟨f - 1, by omega⟩
  have e1 : (plN g).length = g * (g - 1) / 2 := plN_tri g
  rw [show g + 1 - 1 = g from rfl, show g + 1 - 2 = g - 1 by omega] at d
  rw [show g + 1 - 1 = g from rfl] at c ⊢
  rw [List.getElem?_take_of_lt (by omega)]
  show ∃ l, (plN g ++ (List.range g).map fun l => (l, g))[n - 1]? = some (l, g)
  rw [List.getElem?_append_right (by omega), List.getElem?_map]
  have e2 := plN_tri (g + 1)
  have e3 : (plN (g + 1)).length = (plN g).length + g := by
    show (plN g ++ (List.range g).map fun l => (l, g)).length = _
    rw [List.length_append, List.length_map, List.length_range]
  rw [show g + 1 - 1 = g from rfl] at e2
  rw [List.getElem?_range (by omega)]
  exact ⟨_, rfl⟩
theorem low_ring {w : Str} : ((if decide (w = "ring") = true then (3 : Int) else 1)) = ((lowN w : Nat) : Int) := by
  unfold lowN
  by_cases h : w = "ring"
  · rw [decide_eq_true h, if_pos rfl, if_pos h]; rfl
  · rw [decide_eq_false h, if_neg Bool.false_ne_true, if_neg h]; rfl
theorem cut_to {xs : List D} {j : Nat} : DL.cutD xs none (some ((j : Nat) : Int)) = xs.take j := by
  unfold DL.cutD
  rw [HT.sIx_none, HT.sIx_nat, Nat.sub_zero, List.drop_zero]
  by_cases h : j ≤ xs.length
  · rw [show min j xs.length = j by omega]
  · rw [show min j xs.length = xs.length by omega, List.take_length, List.take_of_length_le (by omega)]
theorem map_get {α : Type} {f : α → D} {P : List α} {j : Nat} {d : D} (h : (P.map f)[j]? = some d) : ∃ p, P[j]? = some p ∧ d = f p := by
  rw [List.getElem?_map] at h
  cases e : P[j]? with
  | none => rw [e] at h; cases h
  | some p => rw [e] at h; exact ⟨p, rfl, (Option.some.inj h).symm⟩

local macro_rules | `(tactic| walk_at "D1") => `(tactic| first
  | walk_at "d1"
  | (with_reducible refine' we_callX ?_)
  | (with_reducible refine' we_callX0 ?_)
  | (with_reducible refine' ex_cx1 ?_)
  | (with_reducible refine' ex_cx2 ?_)
  | (with_reducible refine' ex_cx3 ?_)
  | (with_reducible refine' ex_cx4 ?_))
local macro_rules | `(tactic| walk_at "D") => `(tactic| repeat walk_at "D1")

section
variable {P : R → List Sl → Prop} {Y : Nat → D → Prop}
theorem use_nnum {n lo : Nat} (h1 : lo ≤ n) (h2 : n ≤ 5000) (q : P (.d .non) [.d (.int (n : Nat)), .d (.int (lo : Nat))]) : S_need_number [.d (.int (n : Nat)), .d (.int (lo : Nat))] P Y := ⟨n, lo, rfl, h1, h2, q⟩
theorem use_rowby {n : Nat} (h : n ≤ 5000) (q : P (.d (sD n)) [.d (.int (n : Nat))]) : S_row_by [.d (.int (n : Nat))] P Y := ⟨n, rfl, h, q⟩
theorem use_kindB {x y : D} {m : Nat} {nm : Nat} {z : D} (hx : anyD x) (hy : (tyD y).isSome = true) (h : Bad x y nm z) (q : Y nm z) : S_need_kind [.d x, .d y, .d (.int (m : Nat))] P Y := ⟨x, y, m, rfl, hx, hy, .inl ⟨nm, z, h, q⟩⟩
theorem use_kindG {w : Str} {n : Nat} (hx : anyD (.str w)) (h : Good w n) (q : P (.d .non) [.d (.str w), .d (.int (n : Nat)), .d (.int (1000 : Nat))]) : S_need_kind [.d (.str w), .d (.int (n : Nat)), .d (.int (1000 : Nat))] P Y := ⟨_, _, 1000, rfl, hx, rfl, .inr ⟨w, n, rfl, rfl, h, rfl, q⟩⟩
theorem use_rfp {n : Nat} (h1 : 1 ≤ n) (h2 : n ≤ 1000) (q : ∀ f, RfP n f → P (.d (.int (f : Nat))) [.d (.int (n : Nat))]) :
    ∀ Ψ : R → List Sl → Prop, (∀ r as', ownOut r → P r as' → Ψ r as') → S_rows_for_pairs [.d (.int (n : Nat))] Ψ := fun Ψ k => ⟨n, rfl, h1, h2, fun f hf => k _ _ trivial (q f hf)⟩
end
theorem ws_need_number : WsXC (Fx := XF) S_need_number t_need_number [] := by
  rintro K cn Wx as Φ Y fx ⟨n, lo, rfl, h1, h2, h⟩
  unfold t_need_number
  walk_at "d0"
  walk_at "d"
  refine use_is_whole rfl ?_
  rw [show wholeB (.int (n : Nat)) (lo : Nat) 999999999999999999999999999999 = true from by unfold wholeB; simp; omega]
  walk_at "d"
  walk_at "x"
  exact ⟨trivial, h⟩
theorem ws_row_by : WsXC (Fx := XF) S_row_by t_row_by [.no, .no] := by
  rintro K cn Wx as Φ Y fx ⟨n, rfl, hn, h⟩
  unfold t_row_by
  walk_at "d0"
  walk_at "D"
  refine fun P Y' k1 k2 => use_nnum (lo := 0) (Nat.zero_le _) hn (k1 _ _ trivial ?_)
  have hb : (bb n).length ≤ 12 := bb_len hn
  walk_at "D"
  refine w_while (fun m δ' => ∃ a s2 L, δ' = [.d (.int m), .own a (.lst (lw L)), s2] ∧ bb n = bb m ++ L.reverse) n ⟨_, _, [], rfl, by simp⟩ fun m δ' ⟨a, s2, L, e, hL⟩ => ?_
  subst e
  have hlen := congrArg List.length hL
  rw [List.length_append, List.length_reverse] at hlen
  have hll : (lw L).length = L.length := by unfold lw; rw [List.length_map]
  walk_at "d"
  refine br_d (fun q => ?_) (fun q => ?_)
  · walk_at "d"
    have e1 : (m : Int) - 1 = ((m - 1 : Nat) : Int) := by omega
    have e2 : ((m - 1 : Nat) : Int) % 2 = (((m - 1) % 2 : Nat) : Int) := by omega
    have e4 : ((m - 1 : Nat) : Int) / 2 = (((m - 1) / 2 : Nat) : Int) := by omega
    rw [e1, e2, e4]
    refine ⟨_, rfl, _, rfl, ?_, ?_⟩
    · have : (m - 1) % 2 = 0 ∨ (m - 1) % 2 = 1 := by omega
      rcases this with q | q <;> rw [q] <;> decide
    rw [show (toString (((m - 1) % 2 : Nat) : Int) : Str) = ⟨#[48 + (m - 1) % 2]⟩ from digit_str (by omega)]
    walk_at "d"
    have hnew : bb n = bb ((m - 1) / 2) ++ (L ++ [48 + (m - 1) % 2]).reverse := by
      rw [hL, bb_pos (by omega : m ≠ 0), List.reverse_append]
      simp
    rw [lw_snoc]
    exact ⟨(m - 1) / 2, by omega, a, _, _, rfl, hnew⟩
  · have hm : m = 0 := by omega
    subst hm
    rw [bb_zero, List.nil_append] at hL
    walk_at "d"
    have er : (lw L).reverse = lw (bb n) := by
      unfold lw
      rw [← List.map_reverse, hL]
    rw [er]
    refine ex_join (lw_strs _) (by rw [sum_ones, List.length_map, show (Str.ofString "").length = 0 from by decide +kernel]; omega) ?_
    rw [join_lw]
    exact ⟨trivial, h⟩
theorem ws_least_signs : WsXC (Fx := XF) S_least_signs t_least_signs [.no, .no] := by
  rintro K cn Wx as Φ Y fx ⟨n, rfl, h1, h2, h⟩
  unfold t_least_signs
  walk_at "d0"
  walk_at "D"
  refine fun P Y' k1 k2 => use_nnum (lo := 1) h1 h2 (k1 _ _ trivial ?_)
  walk_at "D"
  refine w_while (fun m δ' => ∃ s r : Nat, δ' = [.d (.int n), .d (.int s), .d (.int r)] ∧ r + 1 = 2 ^ (s + 1) ∧ 2 ^ s ≤ n ∧ m = n - r) (n - 1) ⟨0, 1, rfl, rfl, h1, rfl⟩ fun m δ' ⟨s, r, e, h3, h4, h5⟩ => ?_
  subst e
  walk_at "d"
  refine br_d (fun q => ?_) (fun q => ?_)
  · walk_at "d1"
    walk_at "d"
    have e3 : (2 : Int) * (r : Int) + 1 = ((2 * r + 1 : Nat) : Int) := by omega
    have e4 : (s : Int) + 1 = ((s + 1 : Nat) : Int) := by omega
    rw [e3, e4]
    exact ⟨n - (2 * r + 1), by omega, s + 1, 2 * r + 1, rfl, by rw [Nat.pow_succ 2 (s + 1)]; omega, by omega, rfl⟩
  · walk_at "d"
    exact ⟨trivial, h s ⟨h4, by omega⟩⟩
theorem kind_any {w : Str} (h : w ∈ kinds) : anyD (.str w) := ⟨rfl, by
  have : ∀ w ∈ kinds, w.length ≤ 16000000 := by decide +kernel
  exact this w h⟩
theorem ws_need_kind : WsXC (Fx := XF) S_need_kind t_need_kind [.no] := by
  rintro K cn Wx as Φ Y fx ⟨x, y, m, rfl, hx, hy, h⟩
  unfold t_need_kind
  walk_at "d0"
  walk_at "i"
  rcases h with ⟨nm, z, ⟨h1, rfl, rfl⟩ | ⟨w, hw, rfl, h1, rfl, rfl⟩, hY⟩ | ⟨w, n, rfl, rfl, hg, rfl, hP⟩
  · cases z with
    | str s =>
      walk_at "d"
      refine we_notInK kinds fx.k_KINDS (we_var rfl ?_)
      refine ⟨_, rfl, rfl, ?_⟩
      rw [h1]
      walk_at "d"
      refine w_raiseN fx.all_NoKind fx.fl_NoKind ?_
      walk_at "d"
      exact ⟨_, rfl, hY, trivial, rfl⟩
    | _ => first
      | (have := hx.1; cases this; done)
      | (walk_at "d"
         walk_at "ds"
         walk_at "d"
         refine w_raiseN fx.all_NoKind fx.fl_NoKind ?_
         walk_at "d"
         exact ⟨_, rfl, hY, trivial, rfl⟩)
  · have hs : strIn (.str w) kinds = true := decide_eq_true hw
    walk_at "d"
    refine we_notInK kinds fx.k_KINDS (we_var rfl ?_)
    refine ⟨_, rfl, rfl, ?_⟩
    rw [hs]
    walk_at "d"
    refine br_d (fun e => ?_) (fun e => ?_)
    · have hlw : lowN w = 3 := if_pos e
      rw [hlw] at h1
      walk_at "d"
      refine use_is_whole hy ?_
      rw [show wholeB z 3 1000 = false from h1]
      walk_at "d"
      refine w_raiseN fx.all_NoNumber fx.fl_NoNumber ?_
      walk_at "d"
      exact ⟨_, rfl, hY, trivial, rfl⟩
    · have hlw : lowN w = 1 := if_neg e
      rw [hlw] at h1
      walk_at "d"
      refine use_is_whole hy ?_
      rw [show wholeB z 1 1000 = false from h1]
      walk_at "d"
      refine w_raiseN fx.all_NoNumber fx.fl_NoNumber ?_
      walk_at "d"
      exact ⟨_, rfl, hY, trivial, rfl⟩
  · have hs : strIn (.str w) kinds = true := decide_eq_true hg.hw
    have hlo := hg.lo
    have hhi := hg.hi
    walk_at "d"
    refine we_notInK kinds fx.k_KINDS (we_var rfl ?_)
    refine ⟨_, rfl, rfl, ?_⟩
    rw [hs]
    walk_at "d"
    refine br_d (fun e => ?_) (fun e => ?_)
    · have hlw : lowN w = 3 := if_pos e
      rw [hlw] at hlo
      walk_at "d"
      refine use_is_whole rfl ?_
      rw [show wholeB (.int (n : Nat)) 3 1000 = true from by unfold wholeB; simp; omega]
      walk_at "d"
      refine br_n (fun e2 => ?_) (fun e2 => ?_)
      · walk_at "d"
        refine br_no (by omega) ?_
        walk_at "x"
        exact ⟨trivial, hP⟩
      · walk_at "d"
        walk_at "x"
        exact ⟨trivial, hP⟩
    · have hlw : lowN w = 1 := if_neg e
      rw [hlw] at hlo
      walk_at "d"
      refine use_is_whole rfl ?_
      rw [show wholeB (.int (n : Nat)) 1 1000 = true from by unfold wholeB; simp; omega]
      walk_at "d"
      refine br_n (fun e2 => ?_) (fun e2 => ?_)
      · walk_at "d"
        refine br_no (by omega) ?_
        walk_at "x"
        exact ⟨trivial, hP⟩
      · walk_at "d"
        walk_at "x"
        exact ⟨trivial, hP⟩

theorem ws_rows_for_pairs : WsC (Fx := XF) S_rows_for_pairs t_rows_for_pairs [.no] := by
  rintro K cn as Φ fx ⟨n, rfl, h1, h2, h⟩
  unfold t_rows_for_pairs
  walk_at "d0"
  walk_at "d"
  refine w_while (fun m δ' => ∃ f : Nat, δ' = [.d (.int n), .d (.int (f : Nat))] ∧ 2 ≤ f ∧ f ≤ 46 ∧ (f - 1) * (f - 2) / 2 < n ∧ m = 46 - f) 44 ⟨2, rfl, by omega, by omega, by omega, rfl⟩ fun m δ' ⟨f, e, h3, h4, h5, h6⟩ => ?_
  subst e
  walk_at "d"
  have e1 : (f : Int) * ((f : Int) - 1) / 2 = ((f * (f - 1) / 2 : Nat) : Int) := by
    rw [show (f : Int) - 1 = ((f - 1 : Nat) : Int) by omega, ← Int.natCast_mul]
    omega
  rw [e1]
  refine br_d (fun q => ?_) (fun q => ?_)
  · walk_at "d"
    rw [show (f : Int) + 1 = ((f + 1 : Nat) : Int) by omega]
    have hf : f ≠ 46 := fun z => by subst z; omega
    refine ⟨46 - (f + 1), by omega, f + 1, rfl, by omega, by omega, ?_, rfl⟩
    rw [show f + 1 - 1 = f by omega, show f + 1 - 2 = f - 1 by omega]
    omega
  · walk_at "d"
    exact ⟨trivial, h f ⟨h3, h4, by omega, h5⟩⟩
theorem Good.one {w : Str} {n : Nat} (h : Good w n) : 1 ≤ n := by
  have := h.lo
  unfold lowN at this
  split at this <;> omega
theorem ws_why_many : WsXC (Fx := XF) S_why_many t_why_many [] := by
  rintro K cn Wx as Φ Y fx ⟨x, y, rfl, hx, hy, h⟩
  unfold t_why_many
  walk_at "d0"
  walk_at "D"
  rcases h with ⟨nm, z, hb, hY⟩ | ⟨w, n, rfl, rfl, hg, hP⟩
  · exact fun P Y' k1 k2 => use_kindB (m := 1000) hx hy hb (k2 _ _ ⟨hY, trivial, rfl⟩)
  · refine fun P Y' k1 k2 => use_kindG hx hg (k1 _ _ trivial ?_)
    walk_at "D"
    refine br_d (fun q => ?_) (fun q => ?_)
    · walk_at "D"
      refine use_rfp hg.one hg.hi fun f hf => ?_
      exact ⟨trivial, hP f (.inr ⟨q, hf⟩)⟩
    · walk_at "x"
      walk_at "D"
      exact ⟨trivial, hP n (.inl ⟨q, rfl⟩)⟩
theorem ws_kind_web : WsXC (Fx := XF) S_kind_web t_kind_web [.no, .no, .no] := by
  rintro K cn Wx as Φ Y fx ⟨x, y, rfl, hx, hy, nm, z, hb, hY⟩
  unfold t_kind_web
  walk_at "d0"
  walk_at "D"
  exact fun P Y' k1 k2 => use_kindB (m := 12) hx hy hb (k2 _ _ ⟨hY, trivial, rfl⟩)
section
variable {P : R → List Sl → Prop} {Y : Nat → D → Prop}
theorem use_whyB {x y : D} {nm : Nat} {z : D} (hx : anyD x) (hy : (tyD y).isSome = true) (h : Bad x y nm z) (q : Y nm z) : S_why_many [.d x, .d y] P Y := ⟨x, y, rfl, hx, hy, .inl ⟨nm, z, h, q⟩⟩
theorem use_whyG {w : Str} {n : Nat} (h : Good w n) (q : ∀ f, Why w n f → P (.d (.int (f : Nat))) [.d (.str w), .d (.int (n : Nat))]) : S_why_many [.d (.str w), .d (.int (n : Nat))] P Y := ⟨_, _, rfl, kind_any h.hw, rfl, .inr ⟨w, n, rfl, rfl, h, q⟩⟩
theorem use_rowsG {w : Str} {n : Nat} (h : Good w n) (q : ∀ b, P (.own b (.lst (rowsK w n))) [.d (.str w), .d (.int (n : Nat))]) : S_kind_rows [.d (.str w), .d (.int (n : Nat))] P Y := ⟨_, _, rfl, kind_any h.hw, rfl, .inr ⟨w, n, rfl, rfl, h, q⟩⟩
end
theorem ws_kind_far : WsXC (Fx := XF) S_kind_far t_kind_far [.no, .no, .no, .no] := by
  rintro K cn Wx as Φ Y fx ⟨x, y, u, v, rfl, hx, hy, nm, z, hb, hY⟩
  unfold t_kind_far
  walk_at "d0"
  walk_at "D"
  exact fun P Y' k1 k2 => use_whyB hx hy hb (k2 _ _ ⟨hY, trivial, rfl⟩)
theorem ws_kind_rows : WsXC (Fx := XF) S_kind_rows t_kind_rows [.no, .no, .no, .no] := by
  rintro K cn Wx as Φ Y fx ⟨x, y, rfl, hx, hy, h⟩
  unfold t_kind_rows
  walk_at "d0"
  walk_at "D"
  rcases h with ⟨nm, z, hb, hY⟩ | ⟨w, n, rfl, rfl, hg, hP⟩
  · exact fun P Y' k1 k2 => use_kindB (m := 1000) hx hy hb (k2 _ _ ⟨hY, trivial, rfl⟩)
  · refine fun P Y' k1 k2 => use_kindG hx hg (k1 _ _ trivial ?_)
    have hn := hg.hi
    have hn1 := hg.one
    walk_at "D"
    refine br_n (fun q => ?_) (fun q => ?_)
    · have er : rowsK w n = (List.range n).map sD := if_neg q
      rw [er] at hP
      walk_at "D"
      refine we_lc (wi_range1 ?_)
      walk_at "D"
      refine ⟨_, rfl, by omega, by omega, ?_⟩
      rw [Int.toNat_natCast]
      refine ⟨by rw [rangeD_len]; omega, fun j acc δ' => acc = (List.range j).map sD ∧ δ' = [.d (.str w), .d (.int (n : Nat)), .no, .no, .no, .no], ⟨rfl, rfl⟩, ⟨trivial, trivial⟩, ?_, ?_⟩
      · rintro j d acc ε hd hal ⟨rfl, rfl⟩
        obtain ⟨hj, rfl⟩ := rangeD_get hd
        rw [show (0 : Int) + (j : Nat) = (j : Nat) by omega]
        refine ⟨⟨trivial, trivial⟩, wgc_name (by simp) rfl ?_⟩
        walk_at "D"
        refine fun P Y' k1 => use_rowby (by omega) (k1 _ _ trivial ?_)
        walk_at "D"
        exact ⟨by rw [List.range_succ, List.map_append]; rfl, rfl⟩
      rintro acc δ' hal ⟨rfl, rfl⟩ a
      rw [rangeD_len]
      exact ⟨trivial, hP a⟩
    · refine w_next ?_
      have er : rowsK w n = (prsN n).map ssD := if_pos q
      rw [er] at hP
      walk_at "D"
      rename_i b3
      refine w_for (wi_range1 ?_)
      walk_at "D"
      refine use_rfp hn1 hn fun f hf => ?_
      walk_at "D"
      refine ⟨_, rfl, by have := hf.2.1; omega, by have := hf.2.1; omega, ?_⟩
      rw [Int.toNat_natCast]
      refine ⟨fun j δ' => ∃ s4, δ' = [.d (.str w), .d (.int (n : Nat)), .no, .own b3 (.lst ((plN j).map ssD)), s4, .no], ⟨_, rfl⟩, fun j d δ' hd ⟨s4, e⟩ => ?_, fun δ' ⟨s4, e⟩ => ?_⟩
      · obtain ⟨hj, rfl⟩ := rangeD_get hd
        subst e
        have hj46 : j < 46 := by have := hf.2.1; omega
        rw [show (0 : Int) + (j : Nat) = (j : Nat) by omega]
        have hpl := plN_tri j
        have hpl2 := tri_mono (show j ≤ 46 by omega)
        walk_at "D"
        refine we_lc (wi_range1 ?_)
        walk_at "D"
        refine ⟨_, rfl, by omega, by omega, ?_⟩
        rw [Int.toNat_natCast]
        refine ⟨by rw [rangeD_len]; omega, fun i acc δ' => acc = (List.range i).map (fun l => ssD (l, j)) ∧ δ' = [.d (.str w), .d (.int (n : Nat)), .no, .own b3 (.lst ((plN j).map ssD)), .d (.int (j : Nat)), .no], ⟨rfl, rfl⟩, ⟨trivial, trivial⟩, ?_, ?_⟩
        · rintro i d acc ε hd hal ⟨rfl, rfl⟩
          obtain ⟨hi, rfl⟩ := rangeD_get hd
          rw [show (0 : Int) + (i : Nat) = (i : Nat) by omega]
          refine ⟨⟨trivial, trivial⟩, wgc_name (by simp) rfl ?_⟩
          walk_at "D"
          refine fun P Y' k1 => use_rowby (by omega) (k1 _ _ trivial ?_)
          walk_at "D"
          refine fun P Y' k1 => use_rowby (by omega) (k1 _ _ trivial ?_)
          walk_at "D"
          exact ⟨by rw [List.range_succ, List.map_append]; rfl, rfl⟩
        rintro acc δ' hal ⟨rfl, rfl⟩ a
        rw [rangeD_len]
        walk_at "D"
        refine ⟨_, _, rfl, rfl, by rw [List.length_map, List.length_map, List.length_range]; omega, fun δ3 e => ?_⟩
        subst e
        walk_at "k"
        rw [show (plN j).map ssD ++ (List.range j).map (fun l => ssD (l, j)) = (plN (j + 1)).map ssD from by
          show _ = (plN j ++ (List.range j).map fun l => (l, j)).map ssD
          rw [List.map_append, List.map_map]; rfl]
        exact ⟨_, rfl⟩
      · subst e
        rw [rangeD_len]
        walk_at "D"
        refine ⟨_, view_bor rfl, fun a => ?_⟩
        rw [cut_to, ← List.map_take, prs_take hf.2.1 hf.2.2.1]
        exact ⟨trivial, hP a⟩

section
variable {P : R → List Sl → Prop}
theorem use_signs {n : Nat} (h : n ≤ 5000) (q : P (.d (sD n)) [.d (.int (n : Nat))]) :
    ∀ Ψ : R → List Sl → Prop, (∀ r as', ownOut r → P r as' → Ψ r as') → S_l_signs [.d (.int (n : Nat))] Ψ := fun Ψ k => ⟨n, rfl, h, k _ _ trivial q⟩
theorem use_longest {n : Nat} (h1 : 1 ≤ n) (h2 : n ≤ 5000) (q : ∀ l, LongN n l → P (.d (.int (l : Nat))) [.d (.int (n : Nat))]) :
    ∀ Ψ : R → List Sl → Prop, (∀ r as', ownOut r → P r as' → Ψ r as') → S_l_longest [.d (.int (n : Nat))] Ψ := fun Ψ k => ⟨n, rfl, h1, h2, fun l hl => k _ _ trivial (q l hl)⟩
theorem use_pairs {n : Nat} (h1 : 1 ≤ n) (h2 : n ≤ 1000) (q : ∀ b, P (.own b (.lst ((prsN n).map nnD))) [.d (.int (n : Nat))]) :
    ∀ Ψ : R → List Sl → Prop, (∀ r as', ownOut r → P r as' → Ψ r as') → S_l_pairs [.d (.int (n : Nat))] Ψ := fun Ψ k => ⟨n, rfl, h1, h2, fun b => k _ _ trivial (q b)⟩
end
theorem one_app (c : Nat) (L : List Nat) : (⟨#[c]⟩ : Str) ++ strL L = strL (c :: L) := str_eq (by show tl _ = _; rw [tl_append]; rfl)
theorem ws_l_signs : WsC (Fx := XF) S_l_signs t_l_signs [.no] := by
  rintro K cn as Φ fx ⟨n, rfl, hn, h⟩
  have hb := bb_len hn
  unfold t_l_signs
  walk_at "d0"
  walk_at "d"
  refine w_while (fun m δ' => ∃ L, δ' = [.d (.int m), .d (.str (strL L))] ∧ bb n = bb m ++ L) n ⟨[], by rfl, by simp⟩ fun m δ' ⟨L, e, hL⟩ => ?_
  subst e
  have hlen := congrArg List.length hL
  rw [List.length_append] at hlen
  walk_at "d"
  refine br_d (fun q => ?_) (fun q => ?_)
  · walk_at "d"
    have hch : atI (Str.ofString "01").cps.toList (((m : Int) - 1) % 2) = some (48 + (m - 1) % 2) := by
      rw [show ((m : Int) - 1) % 2 = (((m - 1) % 2 : Nat) : Int) by omega]
      have : (m - 1) % 2 = 0 ∨ (m - 1) % 2 = 1 := by omega
      rcases this with z | z <;> rw [z] <;> decide +kernel
    refine dIxC_s (by decide +kernel) hch ?_
    walk_at "d"
    have hl1 : (⟨#[48 + (m - 1) % 2]⟩ : Str).length = 1 := rfl
    have hl2 := len_strL L
    refine dAdd_s (by omega) ?_
    rw [one_app]
    walk_at "d"
    rw [show ((m : Int) - 1) / 2 = (((m - 1) / 2 : Nat) : Int) by omega]
    refine ⟨(m - 1) / 2, by omega, _, rfl, ?_⟩
    rw [hL, bb_pos (by omega : m ≠ 0), List.append_assoc]
    rfl
  · have hm : m = 0 := by omega
    subst hm
    rw [bb_zero, List.nil_append] at hL
    walk_at "d"
    rw [← hL]
    exact ⟨trivial, h⟩
theorem ws_l_longest : WsC (Fx := XF) S_l_longest t_l_longest [.no, .no] := by
  rintro K cn as Φ fx ⟨n, rfl, h1, h2, h⟩
  unfold t_l_longest
  walk_at "d0"
  walk_at "d"
  refine w_while (fun m δ' => ∃ s r : Nat, δ' = [.d (.int n), .d (.int s), .d (.int r)] ∧ r + 1 = 2 ^ (s + 1) ∧ 2 ^ s ≤ n ∧ m = n - r) (n - 1) ⟨0, 1, rfl, rfl, h1, rfl⟩ fun m δ' ⟨s, r, e, h3, h4, h5⟩ => ?_
  subst e
  walk_at "d"
  refine br_d (fun q => ?_) (fun q => ?_)
  · walk_at "d"
    have e3 : (2 : Int) * (r : Int) + 1 = ((2 * r + 1 : Nat) : Int) := by omega
    have e4 : (s : Int) + 1 = ((s + 1 : Nat) : Int) := by omega
    rw [e3, e4]
    exact ⟨n - (2 * r + 1), by omega, s + 1, 2 * r + 1, rfl, by rw [Nat.pow_succ 2 (s + 1)]; omega, by omega, rfl⟩
  · walk_at "d"
    exact ⟨trivial, h s ⟨h4, by omega⟩⟩
theorem pl_step (o : Nat) : (plN (o + 1)).map nnD = (plN o).map nnD ++ (List.range o).map fun l => nnD (l, o) := by
  show (plN o ++ (List.range o).map fun l => (l, o)).map nnD = _
  rw [List.map_append, List.map_map]
  rfl
theorem ws_l_pairs : WsC (Fx := XF) S_l_pairs t_l_pairs [.no, .no, .no] := by
  rintro K cn as Φ fx ⟨n, rfl, h1, h2, h⟩
  unfold t_l_pairs
  walk_at "d0"
  walk_at "d"
  rename_i b
  refine w_while (fun m δ' => ∃ f : Nat, δ' = [.d (.int n), .own b (.lst ((plN f).map nnD)), .d (.int (f : Nat)), .no] ∧ 1 ≤ f ∧ f ≤ 46 ∧ m = 46 - f) 45 ⟨1, rfl, by omega, by omega, rfl⟩ fun m δ' ⟨f, e, h3, h4, h5⟩ => ?_
  subst e
  have hl := plN_tri f
  walk_at "d"
  rw [List.length_map, hl]
  refine br_d (fun q => ?_) (fun q => ?_)
  · have hf : f ≠ 46 := fun z => by subst z; omega
    have hl2 : f * (f - 1) / 2 ≤ 1000 := by omega
    walk_at "d"
    refine we_lc (wi_range1 ?_)
    walk_at "d"
    refine ⟨_, rfl, by omega, by omega, ?_⟩
    rw [Int.toNat_natCast]
    refine ⟨by rw [rangeD_len]; omega, fun i acc δ' => acc = (List.range i).map (fun l => nnD (l, f)) ∧ δ' = [.d (.int n), .own b (.lst ((plN f).map nnD)), .d (.int (f : Nat)), .no], ⟨rfl, rfl⟩, ⟨trivial, trivial⟩, ?_, ?_⟩
    · rintro i d acc ε hd hal ⟨rfl, rfl⟩
      obtain ⟨hi, rfl⟩ := rangeD_get hd
      rw [show (0 : Int) + (i : Nat) = (i : Nat) by omega]
      refine ⟨⟨trivial, trivial⟩, wgc_name (by simp) rfl ?_⟩
      walk_at "d"
      exact ⟨by rw [List.range_succ, List.map_append]; rfl, rfl⟩
    rintro acc δ' hal ⟨rfl, rfl⟩ a
    rw [rangeD_len]
    walk_at "d"
    refine ⟨_, _, rfl, rfl, by rw [List.length_map, List.length_map, List.length_range]; omega, fun δ3 e => ?_⟩
    subst e
    walk_at "k"
    rw [← pl_step]
    walk_at "d"
    rw [show (f : Int) + 1 = ((f + 1 : Nat) : Int) by omega]
    exact ⟨46 - (f + 1), by omega, f + 1, rfl, by omega, by omega, rfl⟩
  · walk_at "d"
    refine ⟨_, view_bor rfl, fun a => ?_⟩
    rw [cut_to, ← List.map_take, prs_take h4 (by omega)]
    exact ⟨trivial, h a⟩
theorem ws_l_many : WsC (Fx := XF) S_l_many t_l_many [.no, .no] := by
  rintro K cn as Φ fx ⟨b, x, n, w, rfl, hb, hn, hw, h⟩
  have hlo : lowN w ≤ 3 := by unfold lowN; split <;> omega
  unfold t_l_many
  walk_at "d0"
  refine w_seq ?_
  refine w_asg ?_
  have go : ∀ (Φ' : R → List Sl → Prop), Φ' (.d (.int (lowN w : Nat))) [.own b x, .d (.str w), .no, .no] → DL.WE (c0 K) false (tIf (tTest (tOp (rEqA K) (tVar 1) (tC (.str "ring")))) (tC (.int 3)) (tC (.int 1))) [.own b x, .d (.str w), .no, .no] Φ' := fun Φ' h => by
    walk_at "d"
    refine br_d (fun e => ?_) (fun e => ?_)
    · rw [show lowN w = 3 from if_pos e] at h
      walk_at "d"
      exact h
    · rw [show lowN w = 1 from if_neg e] at h
      walk_at "d"
      exact h
  refine go _ ?_
  walk_at "d"
  refine use_take hb (by omega) (by omega) (by omega) fun r1 x1 g1 g2 hb1 => ?_
  walk_at "d"
  refine br_d (fun q => ?_) (fun q => ?_)
  · walk_at "d"
    refine use_take hb1 (by omega) (by omega) (by omega) fun r2 x2 g3 g4 hb2 => ?_
    obtain ⟨v, rfl⟩ := Int.eq_ofNat_of_zero_le g3
    walk_at "d"
    rw [show ((lowN w : Nat) : Int) + (v : Nat) = ((lowN w + v : Nat) : Int) by omega]
    exact ⟨⟨rfl, trivial⟩, h _ _ ⟨hw, by omega, by omega⟩ hb2⟩
  walk_at "x"
  walk_at "d"
  refine br_d (fun q2 => ?_) (fun q2 => ?_)
  · walk_at "d"
    refine use_take hb1 (by omega) (by omega) (by omega) fun r2 x2 g3 g4 hb2 => ?_
    obtain ⟨v, rfl⟩ := Int.eq_ofNat_of_zero_le g3
    walk_at "d"
    rw [show (1000 : Int) - (v : Nat) = ((1000 - v : Nat) : Int) by omega]
    exact ⟨⟨rfl, trivial⟩, h _ _ ⟨hw, by omega, by omega⟩ hb2⟩
  walk_at "x"
  walk_at "d"
  refine br_d (fun q3 => ?_) (fun q3 => ?_)
  · walk_at "d"
    refine use_take hb1 (by omega) (by omega) (by omega) fun r2 x2 g3 g4 hb2 => ?_
    obtain ⟨u, rfl⟩ := Int.eq_ofNat_of_zero_le g3
    have hst : ∃ v : Nat, [D.int 7, D.int 8, D.int 15, D.int 16, D.int 31, D.int 32, D.int 63, D.int 64, D.int 127, D.int 511][u]? = some (.int (v : Nat)) ∧ 3 ≤ v ∧ v ≤ 1000 := by
      have : u = 0 ∨ u = 1 ∨ u = 2 ∨ u = 3 ∨ u = 4 ∨ u = 5 ∨ u = 6 ∨ u = 7 ∨ u = 8 ∨ u = 9 := by omega
      rcases this with e | e | e | e | e | e | e | e | e | e <;> subst e
      · exact ⟨7, rfl, by omega, by omega⟩
      · exact ⟨8, rfl, by omega, by omega⟩
      · exact ⟨15, rfl, by omega, by omega⟩
      · exact ⟨16, rfl, by omega, by omega⟩
      · exact ⟨31, rfl, by omega, by omega⟩
      · exact ⟨32, rfl, by omega, by omega⟩
      · exact ⟨63, rfl, by omega, by omega⟩
      · exact ⟨64, rfl, by omega, by omega⟩
      · exact ⟨127, rfl, by omega, by omega⟩
      · exact ⟨511, rfl, by omega, by omega⟩
    obtain ⟨v, ev, hv1, hv2⟩ := hst
    walk_at "d"
    refine dIxC_l (atI_nat ev) ?_
    exact ⟨⟨rfl, trivial⟩, h _ _ ⟨hw, by omega, by omega⟩ hb2⟩
  walk_at "x"
  walk_at "d"
  have hst : ∃ v : Int, atI [D.int 30, D.int 998] (r1 - 3) = some (.int v) ∧ 0 < v ∧ v ≤ 998 := by
    have : r1 = 3 ∨ r1 = 4 := by omega
    rcases this with e | e <;> subst e
    · exact ⟨30, rfl, by omega, by omega⟩
    · exact ⟨998, rfl, by omega, by omega⟩
  obtain ⟨v, ev, hv1, hv2⟩ := hst
  refine dIxC_l ev ?_
  walk_at "d"
  refine use_take hb1 (by omega) hv1 (by omega) fun r2 x2 g3 g4 hb2 => ?_
  obtain ⟨u, rfl⟩ := Int.eq_ofNat_of_zero_le g3
  walk_at "d"
  rw [show ((lowN w : Nat) : Int) + (u : Nat) = ((lowN w + u : Nat) : Int) by omega]
  exact ⟨⟨rfl, trivial⟩, h _ _ ⟨hw, by omega, by omega⟩ hb2⟩
theorem ws_l_call : WsXC (Fx := XF) S_l_call t_l_call [] := by
  rintro K cn Wx as Φ Y fx ⟨c, x, y, rfl, hc, hx, hy, nm, z, hb, hY⟩
  unfold t_l_call
  walk_at "d0"
  walk_at "D"
  refine br_d (fun q => ?_) (fun q => ?_)
  · walk_at "D"
    exact fun P Y' k1 k2 => ⟨x, y, rfl, hx, hy, .inl ⟨nm, z, hb, k2 _ _ ⟨hY, trivial, rfl⟩⟩⟩
  walk_at "x"
  walk_at "D"
  refine br_d (fun q => ?_) (fun q => ?_)
  · walk_at "D"
    exact fun P Y' k1 k2 => ⟨x, y, rfl, hx, hy, nm, z, hb, k2 _ _ ⟨hY, trivial, rfl⟩⟩
  walk_at "x"
  walk_at "D"
  refine br_d (fun q => ?_) (fun q => ?_)
  · walk_at "D"
    exact fun P Y' k1 k2 => ⟨x, y, _, _, rfl, hx, hy, nm, z, hb, k2 _ _ ⟨hY, trivial, rfl⟩⟩
  walk_at "x"
  walk_at "D"
  exact fun P Y' k1 k2 => use_whyB hx hy hb (k2 _ _ ⟨hY, trivial, rfl⟩)

section
variable {P : R → List Sl → Prop}
theorem use_many {b : Addr} {x : D} {n : Nat} {w : Str} (hb : BoxD n x) (hn : n + 2 < 1000000) (hw : w ∈ kinds) (q : ∀ (v : Nat) x', Good w v → BoxD (n + 2) x' → P (.d (.int (v : Nat))) [.own b x', .d (.str w)]) :
    ∀ Ψ : R → List Sl → Prop, (∀ r as', ownOut r → P r as' → Ψ r as') → S_l_many [.own b x, .d (.str w)] Ψ := fun Ψ k => ⟨b, x, n, w, rfl, hb, hn, hw, fun v x' h1 h2 => k _ _ trivial (q v x' h1 h2)⟩
theorem use_refused {c : Nat} {x y : D} {nm : Nat} {z : D} (hc : c < 4) (hx : anyD x) (hy : (tyD y).isSome = true) (hb : Bad x y nm z) (hr : rpOk (.tup [.str (badT nm), z])) (q : P (.d (.str (reprA (.tup [.str (badT nm), z])))) [.d (.int (c : Nat)), .d x, .d y]) :
    ∀ Ψ : R → List Sl → Prop, (∀ r as', ownOut r → P r as' → Ψ r as') → S_l_refused [.d (.int (c : Nat)), .d x, .d y] Ψ := fun Ψ k => ⟨c, x, y, nm, z, rfl, hc, hx, hy, hb, hr, k _ _ trivial q⟩
theorem use_rows_right {w : Str} {n : Nat} (h : Good w n) (q : P (.d (.bl true)) [.d (.str w), .d (.int (n : Nat))]) :
    ∀ Ψ : R → List Sl → Prop, (∀ r as', ownOut r → P r as' → Ψ r as') → S_l_rows_right [.d (.str w), .d (.int (n : Nat))] Ψ := fun Ψ k => ⟨w, n, rfl, h, k _ _ trivial q⟩
theorem use_refr {b : Addr} {x : D} {n m : Nat} {w : Str} (hb : BoxD n x) (hn : n + 10 < 1000000) (h : Good w m) (q : ∀ x', BoxD (n + 10) x' → P (.d (.bl true)) [.own b x', .d (.str w), .d (.int (m : Nat))]) :
    ∀ Ψ : R → List Sl → Prop, (∀ r as', ownOut r → P r as' → Ψ r as') → S_l_refusals_right [.own b x, .d (.str w), .d (.int (m : Nat))] Ψ := fun Ψ k => ⟨b, x, n, w, m, rfl, hb, hn, h, fun x' h1 => k _ _ trivial (q x' h1)⟩
end
theorem ws_l_refused : WsC (Fx := XF) S_l_refused t_l_refused [.no, .no] := by
  rintro K cn as Φ fx ⟨c, x, y, nm, z, rfl, hc, hx, hy, hb, hr, h⟩
  unfold t_l_refused
  walk_at "d0"
  walk_at "d"
  refine w_tryM (cn := cn) (fun nm' t δ' => nm' = nm ∧ t = z ∧ δ' = [.d (.int (c : Nat)), .d x, .d y, .d .non, .no]) (fun Wx => ?_) (fun nm' t δ' q => ?_)
  · walk_at "D"
    exact fun P Y' k1 k2 => ⟨c, x, y, rfl, hc, hx, hy, nm, z, hb, k2 nm z ⟨rfl, rfl, rfl⟩⟩
  · obtain ⟨rfl, rfl, rfl⟩ := q
    have hnm : nm' = XNoKind ∨ nm' = XNoNumber := by
      rcases hb with ⟨_, e, _⟩ | ⟨_, _, _, _, e, _⟩
      · exact .inl e
      · exact .inr e
    rcases hnm with rfl | rfl
    · have T : ExcAll K (cn.ad XNoKind) ["found"] := by have z := fx.all_NoKind; rw [fx.fl_NoKind] at z; exact z
      refine caught_as fx.exm_NoKind_NoKind fun a d' => ?_
      rw [fx.fl_NoKind]
      walk_at "d"
      have hl : (xfs [("found" : Str)] t).lookup ("found" : Str) = some t := by simp [xfs, List.lookup]
      refine we_xfX (f := "found") T (List.mem_singleton.mpr rfl) hl ?_
      walk_at "d"
      refine ⟨rfl, ?_⟩
      rw [show badT XNoKind = Str.ofString "kind" from rfl] at hr h
      walk_at "d"
      exact ⟨_, rfl, hr, trivial, h⟩
    · have T : ExcAll K (cn.ad XNoNumber) ["found"] := by have z := fx.all_NoNumber; rw [fx.fl_NoNumber] at z; exact z
      refine caught_next fx.exm_NoNumber_NoKind (caught_as fx.exm_NoNumber_NoNumber fun a d' => ?_)
      rw [fx.fl_NoNumber]
      walk_at "d"
      have hl : (xfs [("found" : Str)] t).lookup ("found" : Str) = some t := by simp [xfs, List.lookup]
      refine we_xfX (f := "found") T (List.mem_singleton.mpr rfl) hl ?_
      walk_at "d"
      refine ⟨rfl, ?_⟩
      rw [show badT XNoNumber = Str.ofString "number" from rfl] at hr h
      walk_at "d"
      exact ⟨_, rfl, hr, trivial, h⟩
theorem rfp_ex : ∀ {k n : Nat}, 2 ≤ k → k ≤ 46 → 1 ≤ n → n ≤ k * (k - 1) / 2 → ∃ f, RfP n f
  | 0, n, h, _, _, _ => absurd h (by omega)
  | k + 1, n, h, hk, h1, h2 => by
    by_cases z : n ≤ k * (k - 1) / 2
    · by_cases hk2 : 2 ≤ k
      · exact rfp_ex hk2 (by omega) h1 z
      · have : k = 1 := by omega
        subst this
        omega
    · exact ⟨k + 1, h, hk, h2, by rw [show k + 1 - 1 = k by omega, show k + 1 - 2 = k - 1 by omega]; omega⟩
theorem why_uniq {w : Str} {n f f' : Nat} (h : Why w n f) (h' : Why w n f') : f = f' := by
  rcases h with ⟨a, b⟩ | ⟨a, b⟩ <;> rcases h' with ⟨c, d⟩ | ⟨c, d⟩
  · omega
  · exact absurd c a
  · exact absurd a c
  · exact rfp_uniq b d
theorem why_b {w : Str} {n f : Nat} (hg : Good w n) (h : Why w n f) : 1 ≤ f ∧ f ≤ 1000 := by
  have := hg.one
  have := hg.hi
  rcases h with ⟨_, b⟩ | ⟨_, b⟩
  · omega
  · have := b.1; have := b.2.1; omega
theorem sD_pure (k : Nat) : pure0 (sD k) = true := by
  unfold sD pure0 PyData.strOk
  rw [← Array.all_toList, List.all_eq_true]
  intro c hc
  have := List.all_eq_true.mp (bb_zo k) c hc
  have : c = 48 ∨ c = 49 := by simpa using this
  exact decide_eq_true (by omega)
theorem rowsK_pure (w : Str) (n : Nat) : pure0s (rowsK w n) = true ∧ dpts (rowsK w n) ≤ 5 := by
  unfold rowsK
  split
  · exact ⟨pure0s_map fun q _ => by unfold ssD pure0 pure0s pure0s pure0s; rw [sD_pure, sD_pure]; rfl, dpts_map fun q _ => by unfold ssD sD dpt dpts dpts dpts dpt; omega⟩
  · exact ⟨pure0s_map fun q _ => sD_pure q, dpts_map fun q _ => by unfold sD dpt; omega⟩
theorem ne_rows {w : Str} {n : Nat} {k : R → Prop} (t : k (.d (.bl false))) : dEqF not (.lst (rowsK w n)) (.lst (rowsK w n)) k := by
  obtain ⟨a, b⟩ := rowsK_pure w n
  exact dEq_p (by unfold pure0; exact a) (by unfold pure0; exact a) (by unfold dpt; omega) (by unfold dpt; omega) (fun _ => t) (fun e => absurd rfl e)
theorem rp_nat {n : Nat} (h : n ≤ 5000) : rpOk (.int (n : Nat)) := by
  refine ⟨?_, by unfold wt; omega, by unfold dpt; omega⟩
  show ((n : Nat) : Int).natAbs.log2 < 1920
  rw [Int.natAbs_natCast]
  by_cases z : n = 0
  · subst z; decide
  · exact Nat.lt_of_lt_of_le ((Nat.log2_lt z).mpr (show n < 2 ^ 20 by omega)) (by decide)
theorem ws_l_rows_right : WsC (Fx := XF) S_l_rows_right t_l_rows_right [.no, .no, .no, .no, .no, .no, .no, .no, .no] := by
  rintro K cn as Φ fx ⟨w, n, rfl, hg, h⟩
  have hn := hg.hi
  have hn1 := hg.one
  unfold t_l_rows_right
  walk_at "d0"
  refine w_seq (w_asg (we_lc (wi_range1 ?_)))
  walk_at "d"
  refine ⟨_, rfl, by omega, by omega, ?_⟩
  rw [Int.toNat_natCast]
  refine ⟨by rw [rangeD_len]; omega, fun j acc δ' => acc = (List.range j).map sD ∧ δ' = [.d (.str w), .d (.int (n : Nat)), .no, .no, .no, .no, .no, .no, .no, .no, .no], ⟨rfl, rfl⟩, ⟨trivial, trivial⟩, ?_, ?_⟩
  · rintro j d acc ε hd hal ⟨rfl, rfl⟩
    obtain ⟨hj, rfl⟩ := rangeD_get hd
    rw [show (0 : Int) + (j : Nat) = (j : Nat) by omega]
    refine ⟨⟨trivial, trivial⟩, wgc_name (by simp) rfl ?_⟩
    walk_at "d"
    refine use_signs (by omega) ?_
    walk_at "d"
    exact ⟨by rw [List.range_succ, List.map_append]; rfl, rfl⟩
  rintro acc δ' hal ⟨rfl, rfl⟩ a
  rw [rangeD_len]
  refine wg_frz ?_
  walk_at "k"
  refine wg_nameN rfl rfl ?_
  walk_at "k"
  walk_at "i"
  refine w_join (fun δ' => ∃ (f : Nat) (s5 : Sl), δ' = [.d (.str w), .d (.int (n : Nat)), .d (.lst (rowsK w n)), .no, .d (.int (f : Nat)), s5, .no, .no, .no, .no, .no] ∧ Why w n f) ?_ ?_
  · walk_at "d"
    refine br_d (fun q => ?_) (fun q => ?_)
    · have er : rowsK w n = (prsN n).map ssD := if_pos q
      obtain ⟨f, hf⟩ := rfp_ex (k := 46) (by omega) (by omega) hn1 (by omega)
      obtain ⟨l, hl⟩ := prs_last hn1 hf
      have hlen := prs_len hn
      have hf1 := hf.1
      have hf2 := hf.2.1
      walk_at "d"
      refine use_pairs hn1 hn fun b5 => ?_
      walk_at "q"
      refine w_frz 5 rfl ?_
      walk_at "k"
      walk_at "d"
      have hat : atI ((prsN n).map nnD) (-1) = some (nnD (l, f - 1)) := by
        have e : ixN n (-1) = some (n - 1) := by
          unfold ixN
          split
          · omega
          · split
            · congr 1; omega
            · omega
        unfold atI
        rw [List.length_map, hlen, e]
        show ((prsN n).map nnD)[n - 1]? = _
        rw [List.getElem?_map, hl]
        rfl
      refine dIxC_l hat ?_
      rw [show nnD (l, f - 1) = .tup [.int (l : Nat), .int ((f - 1 : Nat) : Int)] from rfl]
      walk_at "d"
      rw [show ((f - 1 : Nat) : Int) + 1 = (f : Nat) by omega]
      refine we_lc (wi_any ?_)
      walk_at "d"
      refine ⟨_, _, rfl, rfl, by rw [List.length_map]; omega, fun j acc δ' => acc = ((prsN n).take j).map ssD ∧ δ' = [.d (.str w), .d (.int (n : Nat)), .d (.lst ((List.range n).map sD)), .no, .d (.int (f : Nat)), .d (.lst ((prsN n).map nnD)), .no, .no, .no, .no, .no], ⟨rfl, rfl⟩, ⟨trivial, trivial, trivial⟩, ?_, ?_⟩
      · rintro j d acc ε hd hal ⟨rfl, rfl⟩
        obtain ⟨p, hp, rfl⟩ := map_get hd
        have hp2 := prs_mem (List.mem_of_getElem? hp)
        rw [show nnD p = .tup [.int (p.1 : Nat), .int (p.2 : Nat)] from rfl]
        refine ⟨⟨trivial, trivial, trivial⟩, wgc_s2 (wgc_name (by simp) rfl (wgc_name (by simp) rfl ?_))⟩
        walk_at "d"
        refine use_signs (by omega) ?_
        walk_at "d"
        refine use_signs (by omega) ?_
        walk_at "d"
        exact ⟨by rw [List.take_add_one, hp, List.map_append]; rfl, rfl⟩
      rintro acc δ' hal ⟨rfl, rfl⟩ a6
      rw [List.length_map, List.take_length]
      refine wg_frz ?_
      walk_at "k"
      refine wg_nameN rfl rfl ?_
      walk_at "k"
      rw [er]
      exact ⟨f, _, rfl, .inr ⟨q, hf⟩⟩
    · have er : rowsK w n = (List.range n).map sD := if_neg q
      rw [er]
      walk_at "x"
      exact ⟨n, _, rfl, .inl ⟨q, rfl⟩⟩
  rintro δ' ⟨f, s5, rfl, hf⟩
  obtain ⟨hf1, hf2⟩ := why_b hg hf
  refine w_seq ?_
  refine w_for (wi_range1 ?_)
  walk_at "d"
  refine ⟨_, rfl, by omega, by omega, ?_⟩
  refine ⟨fun t δ' => ∃ s8 s9, δ' = [.d (.str w), .d (.int (n : Nat)), .d (.lst (rowsK w n)), .no, .d (.int (f : Nat)), s5, .no, .no, s8, s9, .no], ⟨_, _, rfl⟩, fun t d δ' hd ⟨s8, s9, e⟩ => ?_, fun δ' ⟨s8, s9, e⟩ => ?_⟩
  · subst e
    walk_at "D"
    refine fun P Y' k1 => use_rowsG hg fun b9 => k1 _ _ trivial ?_
    walk_at "D"
    refine ne_rows ?_
    walk_at "D"
    walk_at "x"
    walk_at "D"
    refine ⟨9, b9, _, rfl, rfl, fun δ3 e => ?_⟩
    subst e
    exact ⟨_, _, rfl⟩
  · subst e
    walk_at "D"
    refine fun P Y' k1 => use_whyG hg fun f' hf' => k1 _ _ trivial ?_
    obtain rfl := why_uniq hf' hf
    walk_at "D"
    refine ⟨_, rfl, rp_nat (by omega), ?_⟩
    walk_at "D"
    refine ⟨_, rfl, rp_nat (by omega), ?_⟩
    walk_at "D"
    refine br_nyes rfl ?_
    walk_at "D"
    obtain ⟨l, hl⟩ : ∃ l, LongN f' l := ⟨_, by have := bb_long (f' - 1); rw [show f' - 1 + 1 = f' by omega] at this; exact this⟩
    have hll : (strL (bb (f' - 1))).length = l := by
      rw [len_strL]
      have := bb_long (f' - 1)
      rw [show f' - 1 + 1 = f' by omega] at this
      exact long_uniq this hl
    have l12 := bb_len (show f' - 1 ≤ 5000 by omega)
    rw [len_strL] at hll
    have fin : ∀ (N : List Sl → Prop) (s8 s9 : Sl), W (c0 K) (tSeq (tAsg (tCB (rLenB K) (tCons (tCall (lift K S_l_signs) [] E0 (tCons (tOp rSubA (tVar 4) (tC (.int 1))) tNil)) tNil)) (gName 10)) (tRet (tAndV (tOp (rEqA K) (tVar 10) (tCall (lift K S_l_longest) [] E0 (tCons (tVar 4) tNil))) (tOp (rEqA K) (tCB (rReprA K) (tCons (tCall (liftX K cn S_least_signs) [] E0 (tCons (tCall (liftX K cn S_why_many) [] E0 (tCons (tVar 0) (tCons (tVar 1) tNil))) tNil)) tNil)) (tCB (rReprA K) (tCons (tVar 10) tNil))))))
        [.d (.str w), .d (.int (n : Nat)), .d (.lst (rowsK w n)), .no, .d (.int (f' : Nat)), s5, .no, .no, s8, s9, .no] N (RetD [.d (.str w), .d (.int (n : Nat))] Φ) (fun _ => False) (fun _ => False) := fun N s8 s9 => by
      walk_at "D"
      rw [show (f' : Int) - 1 = ((f' - 1 : Nat) : Int) by omega]
      refine use_signs (by omega) ?_
      rw [show sD (f' - 1) = .str (strL (bb (f' - 1))) from rfl]
      walk_at "D"
      refine ⟨_, rfl, (by show _ ≤ _; rw [len_strL]; omega), _, rfl, ?_⟩
      rw [len_strL, hll]
      walk_at "D"
      refine use_longest hf1 (by omega) fun l2 hl2 => ?_
      obtain rfl := long_uniq hl2 hl
      walk_at "D"
      refine br_yes rfl ?_
      walk_at "D"
      refine fun P Y' k1 => use_whyG hg fun f2 hf2 => k1 _ _ trivial ?_
      obtain rfl := why_uniq hf2 hf
      walk_at "D"
      refine fun P Y' k1 => ⟨f2, rfl, hf1, by omega, fun l3 hl3 => ?_⟩
      obtain rfl := long_uniq hl3 hl
      refine k1 _ _ trivial ?_
      walk_at "D"
      refine ⟨_, rfl, rp_nat (by omega), ?_⟩
      walk_at "D"
      refine ⟨_, rfl, rp_nat (by omega), ?_⟩
      walk_at "D"
      refine ⟨trivial, ?_⟩
      rw [decide_eq_true rfl]
      exact h
    refine br_d (fun q => ?_) (fun q => ?_)
    · have hr : RfP n f' := by
        rcases hf with ⟨a, _⟩ | ⟨_, b⟩
        · exact absurd q a
        · exact b
      have hr4 := hr.2.2.2
      walk_at "D"
      have e1 : ((f' : Int) - 1) * ((f' : Int) - 2) / 2 = (((f' - 1) * (f' - 2) / 2 : Nat) : Int) := by
        rw [show (f' : Int) - 1 = ((f' - 1 : Nat) : Int) by omega, show (f' : Int) - 2 = ((f' - 2 : Nat) : Int) by have := hr.1; omega, ← Int.natCast_mul]
        omega
      rw [e1]
      refine br_no (by omega) ?_
      walk_at "x"
      exact fin _ _ _
    · walk_at "q"
      exact fin _ _ _

theorem mem_upper {x : Str} {c : Nat} (h : c ∈ (Txt.upper x).cps.toList) : ∃ d ∈ x.cps.toList, c ∈ Unicode.upperOf d := by
  have h' : c ∈ (x.cps.mapIdx fun _ c => (Unicode.upperOf c).toArray).flatten := by
    have : c ∈ (Txt.upper x).cps := Array.mem_toList_iff.mp h
    exact this
  obtain ⟨a, ha, hc⟩ := Array.mem_flatten.mp h'
  obtain ⟨i, hi, e⟩ := Array.mem_mapIdx.mp ha
  subst e
  exact ⟨x.cps[i], Array.mem_toList_iff.mpr (Array.getElem_mem hi), by simpa using hc⟩
theorem upper_low : ∀ c ∈ lettersL, (Unicode.upperOf c).all (fun d => decide (d < 1000)) = true := by decide +kernel
/-- a short text of low signs -/
def Sh (s : Str) : Prop := s.length ≤ 100 ∧ ∀ c ∈ tl s, c < 2000
structure BadOk (y : D) : Prop where
  ty : (tyD y).isSome = true
  ok : strOk y
  rp : ∀ t : Str, Sh t → rpOk (.tup [.str t, y])
theorem sh_rp {s : Str} (h : Sh s) : rOk (.str s) ∧ wt (.str s) ≤ 1002 ∧ dpt (.str s) = 0 := by
  refine ⟨by unfold rOk; exact fun c hc => by have := h.2 c hc; omega, ?_, rfl⟩
  have := h.1
  unfold wt
  omega
theorem bad_gen {y : D} (h1 : (tyD y).isSome = true) (h2 : strOk y) (h3 : rOk y) (h4 : wt y ≤ 5000) (h5 : dpt y ≤ 3) : BadOk y := ⟨h1, h2, fun t ht => by
  obtain ⟨a, b, c⟩ := sh_rp ht
  refine ⟨?_, ?_, ?_⟩
  · unfold rOk rOks rOks rOks; exact ⟨a, h3, trivial⟩
  · unfold wt wts wts wts; omega
  · unfold dpt dpts dpts dpts; omega⟩
theorem bad_str {s : Str} (h : Sh s) : BadOk (.str s) := by
  obtain ⟨a, b, c⟩ := sh_rp h
  exact bad_gen rfl (by have := h.1; show s.length ≤ _; omega) a (by omega) (by omega)
theorem bad_lst {s : Str} (h : Sh s) : BadOk (.lst [.str s]) := by
  obtain ⟨a, b, c⟩ := sh_rp h
  exact bad_gen rfl trivial (by unfold rOk rOks rOks; exact ⟨a, trivial⟩) (by unfold wt wts wts; omega) (by unfold dpt dpts dpts; omega)
theorem bad_tup {s : Str} (h : Sh s) : BadOk (.tup [.str s]) := by
  obtain ⟨a, b, c⟩ := sh_rp h
  exact bad_gen rfl trivial (by unfold rOk rOks rOks; exact ⟨a, trivial⟩) (by unfold wt wts wts; omega) (by unfold dpt dpts dpts; omega)
theorem sh_app {s t : Str} (h1 : Sh s) (h2 : Sh t) (hl : s.length + t.length ≤ 100) : Sh (s ++ t) := by
  refine ⟨by rw [len_app]; exact hl, fun c hc => ?_⟩
  rw [tl_append] at hc
  rcases List.mem_append.mp hc with z | z
  · exact h1.2 c z
  · exact h2.2 c z
theorem kind_sh {w : Str} (h : w ∈ kinds) : Sh w ∧ w.length = 4 ∧ (∀ c ∈ tl w, c ∈ lettersL) := by
  have a : ∀ w ∈ kinds, w.length = 4 ∧ (tl w).all (fun c => decide (c ∈ lettersL)) = true := by decide +kernel
  obtain ⟨a, b⟩ := a w h
  have b : ∀ c ∈ tl w, c ∈ lettersL := fun c hc => of_decide_eq_true (List.all_eq_true.mp b c hc)
  have h5 : ∀ c ∈ lettersL, c < 123 := by decide
  exact ⟨⟨by omega, fun c hc => by have := h5 c (b c hc); omega⟩, a, b⟩
theorem tl_cutH {z : Str} {n : Nat} : tl (cutS z none (some (n : Int))) = (tl z).take n := by
  unfold cutS
  rw [HT.sIx_none, HT.sIx_nat]
  show List.take (min n z.length - 0) (List.drop 0 (tl z)) = _
  rw [List.drop_zero, Nat.sub_zero, len_tl, ← List.take_eq_take_min]
theorem tl_cutT {z : Str} {n : Nat} : tl (cutS z (some (n : Int)) none) = (tl z).drop n := by
  unfold cutS
  rw [HT.sIx_none, HT.sIx_nat]
  show List.take (z.length - min n z.length) (List.drop (min n z.length) (tl z)) = _
  rw [len_tl, List.take_of_length_le (by rw [List.length_drop]; omega)]
  by_cases q : n ≤ (tl z).length
  · rw [Nat.min_eq_left q]
  · rw [Nat.min_eq_right (by omega), List.drop_eq_nil_of_le (Nat.le_refl _), List.drop_eq_nil_of_le (by omega)]
theorem sh_cutH {z : Str} {n : Nat} (h : Sh z) : Sh (cutS z none (some (n : Int))) ∧ (cutS z none (some (n : Int))).length ≤ z.length := by
  have e := tl_cutH (z := z) (n := n)
  have l : (cutS z none (some (n : Int))).length ≤ z.length := by
    have := congrArg List.length e
    rw [← len_tl, List.length_take, ← len_tl] at this
    omega
  exact ⟨⟨by have := h.1; omega, fun c hc => h.2 c (by rw [e] at hc; exact List.mem_of_mem_take hc)⟩, l⟩
theorem sh_cutT {z : Str} {n : Nat} (h : Sh z) : Sh (cutS z (some (n : Int)) none) ∧ (cutS z (some (n : Int)) none).length ≤ z.length := by
  have e := tl_cutT (z := z) (n := n)
  have l : (cutS z (some (n : Int)) none).length ≤ z.length := by
    have := congrArg List.length e
    rw [← len_tl, List.length_drop, ← len_tl] at this
    omega
  exact ⟨⟨by have := h.1; omega, fun c hc => h.2 c (by rw [e] at hc; exact List.mem_of_mem_drop hc)⟩, l⟩
def keepB (d : D) : Option D := if strIn d kinds = true then none else some d
theorem ws_l_refusals_right : WsC (Fx := XF) S_l_refusals_right t_l_refusals_right [.no, .no, .no, .no, .no, .no, .no, .no, .no] := by
  rintro K cn as Φ fx ⟨b, x, n, w, m, rfl, hb, hn, hg, h⟩
  obtain ⟨hsw, hw4, hwl⟩ := kind_sh hg.hw
  have hwa := kind_any hg.hw
  unfold t_l_refusals_right
  walk_at "d0"
  walk_at "d"
  refine use_take hb (by omega) (by omega) (by omega) fun r1 x1 g1 g2 hb1 => ?_
  have hlt : ∃ ch, atI (Str.ofString "abcdefghijklmnopqrstuvwxyz").cps.toList r1 = some ch ∧ ch < 123 := by
    obtain ⟨u, rfl⟩ := Int.eq_ofNat_of_zero_le g1
    rw [ltr]
    have hu : u < lettersL.length := by rw [show lettersL.length = 26 from rfl]; omega
    exact ⟨lettersL[u], atI_nat (List.getElem?_eq_getElem hu), (by decide : ∀ c ∈ lettersL, c < 123) _ (List.getElem_mem _)⟩
  obtain ⟨ch, ech, hch⟩ := hlt
  walk_at "d"
  refine dIxC_s (by decide +kernel) ech ?_
  have hsc : Sh ⟨#[ch]⟩ := ⟨by show 1 ≤ 100; omega, fun c hc => by
    have : c ∈ [ch] := hc
    rw [List.mem_singleton.mp this]; omega⟩
  have hlc : (⟨#[ch]⟩ : Str).length = 1 := rfl
  generalize (⟨#[ch]⟩ : Str) = lt at hsc hlc ⊢
  walk_at "d"
  refine use_take hb1 (by omega) (by omega) (by omega) fun r2 x2 g3 g4 hb2 => ?_
  obtain ⟨a, rfl⟩ := Int.eq_ofNat_of_zero_le g3
  walk_at "d"
  refine dAdd_s (by omega) ?_
  have sH := sh_cutH (n := a) hsw
  have sT := sh_cutT (n := a + 1) hsw
  have e1 : (a : Int) + 1 = ((a + 1 : Nat) : Int) := by omega
  walk_at "d"
  refine ⟨by omega, ?_⟩
  walk_at "d"
  refine ⟨by omega, ?_⟩
  rw [e1]
  walk_at "d"
  refine dAdd_s (by omega) ?_
  walk_at "d"
  refine ⟨by omega, ?_⟩
  walk_at "d"
  refine dAdd_s (by omega) ?_
  have l3 := len_app (cutS w none (some (a : Int))) lt
  walk_at "d"
  refine ⟨by omega, ?_⟩
  rw [e1]
  walk_at "d"
  refine dAdd_s (by omega) ?_
  have l4 := len_app (cutS w none (some (a : Int)) ++ lt) (cutS w (some ((a + 1 : Nat) : Int)) none)
  have l5 := PyProof.Rows.len_upper w
  walk_at "d"
  refine ⟨rfl, _, rfl, rfl, by omega, ?_⟩
  walk_at "d"
  refine dAdd_s (by rw [show (Str.ofString " ").length = 1 from by decide +kernel]; omega) ?_
  walk_at "d"
  refine dAdd_l (by simp) fun b6 => ?_
  walk_at "q"
  refine w_frz 5 rfl ?_
  walk_at "k"
  have hup : Sh (Txt.upper w) := ⟨by omega, fun c hc => by
    obtain ⟨d, hd, he⟩ := mem_upper hc
    have := of_decide_eq_true (List.all_eq_true.mp (upper_low d (hwl d hd)) c he)
    omega⟩
  have hsp : Sh (Str.ofString " ") := ⟨by decide +kernel, by decide +kernel⟩
  have hem : Sh (Str.ofString "") := ⟨by decide +kernel, by decide +kernel⟩
  have hS : ∀ y ∈ [D.str (w ++ lt), .str (cutS w none (some (a : Int)) ++ cutS w (some ((a + 1 : Nat) : Int)) none), .str (cutS w none (some (a : Int)) ++ lt ++ cutS w (some ((a + 1 : Nat) : Int)) none), .str (Txt.upper w), .str (Str.ofString ""), .non] ++ [D.lst [.str w], .tup [.str w], .bl true, .int 0, .dct [], .str (w ++ Str.ofString " ")], BadOk y := by
    intro y hy
    simp only [List.mem_append, List.mem_cons, List.not_mem_nil, or_false] at hy
    rcases hy with (e | e | e | e | e | e) | (e | e | e | e | e | e) <;> subst e
    · exact bad_str (sh_app hsw hsc (by omega))
    · exact bad_str (sh_app sH.1 sT.1 (by omega))
    · exact bad_str (sh_app (sh_app sH.1 hsc (by omega)) sT.1 (by omega))
    · exact bad_str hup
    · exact bad_str hem
    · exact bad_gen rfl trivial trivial (by unfold wt; omega) (by unfold dpt; omega)
    · exact bad_lst hsw
    · exact bad_tup hsw
    · exact bad_gen rfl trivial trivial (by unfold wt; omega) (by unfold dpt; omega)
    · exact bad_gen rfl trivial (by unfold rOk; decide +kernel) (by unfold wt; omega) (by unfold dpt; omega)
    · exact bad_gen rfl trivial trivial (by unfold wt wtk; omega) (by unfold dpt dptk; omega)
    · exact bad_str (sh_app hsw hsp (by rw [show (Str.ofString " ").length = 1 from by decide +kernel]; omega))
  have hSl : ([D.str (w ++ lt), .str (cutS w none (some (a : Int)) ++ cutS w (some ((a + 1 : Nat) : Int)) none), .str (cutS w none (some (a : Int)) ++ lt ++ cutS w (some ((a + 1 : Nat) : Int)) none), .str (Txt.upper w), .str (Str.ofString ""), .non] ++ [D.lst [.str w], .tup [.str w], .bl true, .int 0, .dct [], .str (w ++ Str.ofString " ")]).length = 12 := rfl
  have hSn : D.non ∈ [D.str (w ++ lt), .str (cutS w none (some (a : Int)) ++ cutS w (some ((a + 1 : Nat) : Int)) none), .str (cutS w none (some (a : Int)) ++ lt ++ cutS w (some ((a + 1 : Nat) : Int)) none), .str (Txt.upper w), .str (Str.ofString ""), .non] ++ [D.lst [.str w], .tup [.str w], .bl true, .int 0, .dct [], .str (w ++ Str.ofString " ")] := List.mem_append_left _ (by simp)
  generalize [D.str (w ++ lt), .str (cutS w none (some (a : Int)) ++ cutS w (some ((a + 1 : Nat) : Int)) none), .str (cutS w none (some (a : Int)) ++ lt ++ cutS w (some ((a + 1 : Nat) : Int)) none), .str (Txt.upper w), .str (Str.ofString ""), .non] ++ [D.lst [.str w], .tup [.str w], .bl true, .int 0, .dct [], .str (w ++ Str.ofString " ")] = S at hS hSl hSn ⊢
  walk_at "d"
  refine we_lcP (wi_any ?_)
  walk_at "d"
  refine ⟨_, _, rfl, rfl, ⟨trivial, trivial⟩, by omega, keepB, fun i d hd => ?_, fun a7 => ?_⟩
  · have hok := hS d (List.mem_of_getElem? hd)
    refine wgc_name (by simp) rfl ?_
    refine wt_test ?_
    refine we_op opd_notInXT ?_
    walk_at "d"
    refine dInXT_ kinds hok.ty rfl ?_
    walk_at "d"
    cases e : strIn d kinds with
    | true =>
      refine br_f ?_
      show (if strIn d kinds = true then none else some d) = none
      rw [e]; rfl
    | false =>
      refine br_t ?_
      walk_at "d"
      show (if strIn d kinds = true then none else some d) = some d
      rw [e]; rfl
  have hk : ∀ y ∈ S.filterMap keepB, BadOk y ∧ strIn y kinds = false := fun y hy => by
    obtain ⟨d, hd, e⟩ := List.mem_filterMap.mp hy
    unfold keepB at e
    by_cases z : strIn d kinds = true
    · rw [if_pos z] at e; cases e
    · rw [if_neg z] at e
      cases e
      exact ⟨hS _ hd, by simpa using z⟩
  have hne : 0 < (S.filterMap keepB).length := List.length_pos_of_mem (List.mem_filterMap.mpr ⟨.non, hSn, rfl⟩)
  have hle : (S.filterMap keepB).length ≤ 12 := by rw [← hSl]; exact List.length_filterMap_le _ _
  generalize S.filterMap keepB = T at hk hne hle ⊢
  refine wg_frz ?_
  walk_at "k"
  refine wg_nameN rfl rfl ?_
  walk_at "k"
  walk_at "d"
  refine use_take hb2 (by omega) (by omega) (by omega) fun r3 x3 g5 g6 hb3 => ?_
  obtain ⟨u, rfl⟩ := Int.eq_ofNat_of_zero_le g5
  have hT : T[u]? = some T[u] := List.getElem?_eq_getElem (by omega)
  have hbd := hk T[u] (List.getElem_mem _)
  generalize T[u] = y at hT hbd
  obtain ⟨hyb, hyk⟩ := hbd
  walk_at "d"
  refine dIxC_l (atI_nat hT) ?_
  walk_at "d"
  refine ⟨_, rfl, dIntC_b ?_⟩
  walk_at "d"
  have hix : ∃ v : Nat, atI [D.int 0, D.int 2] (if decide (w = Str.ofString "ring") = true then 1 else 0) = some (.int (v : Nat)) ∧ v < lowN w ∧ v ≤ 2 := by
    by_cases z : w = Str.ofString "ring"
    · refine ⟨2, ?_, ?_, by omega⟩
      · rw [decide_eq_true z, if_pos rfl]; rfl
      · rw [show lowN w = 3 from if_pos z]; omega
    · refine ⟨0, ?_, ?_, by omega⟩
      · rw [decide_eq_false z, if_neg Bool.false_ne_true]; rfl
      · rw [show lowN w = 1 from if_neg z]; omega
  obtain ⟨v, ev, hv1, hv2⟩ := hix
  refine dIxC_l ev ?_
  walk_at "d"
  refine use_take hb3 (by omega) (by omega) (by omega) fun r4 x4 g7 g8 hb4 => ?_
  obtain ⟨t, rfl⟩ := Int.eq_ofNat_of_zero_le g7
  walk_at "d"
  have hlo3 : lowN w ≤ 3 := by unfold lowN; split <;> omega
  have hlo1 : 1 ≤ lowN w := by unfold lowN; split <;> omega
  have hQ : ∀ z ∈ [D.int (v : Nat), .int 1001, .int (-1), .bl true, .non, .str (Str.ofString "5"), .lst [.int 5], .int 100000000000000000000000000000, .bl false], BadOk z ∧ wholeB z (lowN w : Nat) 1000 = false := by
    intro z hz
    simp only [List.mem_cons, List.not_mem_nil, or_false] at hz
    rcases hz with e | e | e | e | e | e | e | e | e <;> subst e
    · refine ⟨bad_gen rfl trivial (rp_nat (by omega)).1 (by unfold wt; omega) (by unfold dpt; omega), ?_⟩
      show (decide (((lowN w : Nat) : Int) ≤ (v : Nat)) && decide (((v : Nat) : Int) ≤ 1000)) = false
      rw [decide_eq_false (by omega)]
      rfl
    · refine ⟨bad_gen rfl trivial (by unfold rOk; decide +kernel) (by unfold wt; omega) (by unfold dpt; omega), ?_⟩
      show (decide (((lowN w : Nat) : Int) ≤ 1001) && decide ((1001 : Int) ≤ 1000)) = false
      rw [show decide ((1001 : Int) ≤ 1000) = false from by decide, Bool.and_false]
    · refine ⟨bad_gen rfl trivial (by unfold rOk; decide +kernel) (by unfold wt; omega) (by unfold dpt; omega), ?_⟩
      show (decide (((lowN w : Nat) : Int) ≤ -1) && decide ((-1 : Int) ≤ 1000)) = false
      rw [decide_eq_false (by omega)]
      rfl
    · exact ⟨bad_gen rfl trivial trivial (by unfold wt; omega) (by unfold dpt; omega), rfl⟩
    · exact ⟨bad_gen rfl trivial trivial (by unfold wt; omega) (by unfold dpt; omega), rfl⟩
    · exact ⟨bad_str ⟨by decide +kernel, by decide +kernel⟩, rfl⟩
    · exact ⟨bad_gen rfl trivial (by unfold rOk rOks rOks rOk; exact ⟨by decide +kernel, trivial⟩) (by unfold wt wts wts wt; omega) (by unfold dpt dpts dpts dpt; omega), rfl⟩
    · refine ⟨bad_gen rfl trivial (by unfold rOk; decide +kernel) (by unfold wt; omega) (by unfold dpt; omega), ?_⟩
      show (decide (((lowN w : Nat) : Int) ≤ 100000000000000000000000000000) && decide ((100000000000000000000000000000 : Int) ≤ 1000)) = false
      rw [show decide ((100000000000000000000000000000 : Int) ≤ 1000) = false from by decide, Bool.and_false]
    · exact ⟨bad_gen rfl trivial trivial (by unfold wt; omega) (by unfold dpt; omega), rfl⟩
  have hQl : [D.int (v : Nat), .int 1001, .int (-1), .bl true, .non, .str (Str.ofString "5"), .lst [.int 5], .int 100000000000000000000000000000, .bl false].length = 9 := rfl
  generalize [D.int (v : Nat), .int 1001, .int (-1), .bl true, .non, .str (Str.ofString "5"), .lst [.int 5], .int 100000000000000000000000000000, .bl false] = Q at hQ hQl ⊢
  have hQt : Q[t]? = some Q[t] := List.getElem?_eq_getElem (by omega)
  have hqd := hQ Q[t] (List.getElem_mem _)
  generalize Q[t] = z at hQt hqd
  obtain ⟨hzb, hzk⟩ := hqd
  refine dIxC_l (atI_nat hQt) ?_
  walk_at "d"
  have hya : anyD y := ⟨hyb.ty, hyb.ok⟩
  have tk : Sh (Str.ofString "kind") := ⟨by decide +kernel, by decide +kernel⟩
  have tn : Sh (Str.ofString "number") := ⟨by decide +kernel, by decide +kernel⟩
  refine w_for (wi_range1 ?_)
  walk_at "d"
  refine ⟨_, rfl, by omega, by omega, ?_⟩
  refine ⟨fun j δ' => ∃ s11, δ' = [.own b x4, .d (.str w), .d (.int (m : Nat)), .d (.str lt), .d (.int (a : Nat)), .d (.lst S), .d (.lst T), .no, .d y, .d (.int (v : Nat)), .d z, s11], ⟨_, rfl⟩, fun j d δ' hd ⟨s11, e⟩ => ?_, fun δ' ⟨s11, e⟩ => ?_⟩
  · obtain ⟨hj, rfl⟩ := rangeD_get hd
    have hj4 : j < 4 := hj
    subst e
    rw [show (0 : Int) + (j : Nat) = (j : Nat) by omega]
    have b1 : Bad y z XNoKind y := .inl ⟨hyk, rfl, rfl⟩
    have b2 : Bad y (.int (m : Nat)) XNoKind y := .inl ⟨hyk, rfl, rfl⟩
    have b3 : Bad (.str w) z XNoNumber z := .inr ⟨w, hg.hw, rfl, hzk, rfl, rfl⟩
    have k1 : badT XNoKind = Str.ofString "kind" := rfl
    have k2 : badT XNoNumber = Str.ofString "number" := rfl
    walk_at "d"
    refine use_refused hj4 hya hzb.ty b1 (by rw [k1]; exact hyb.rp _ tk) ?_
    rw [k1]
    walk_at "d"
    refine ⟨_, rfl, hyb.rp _ tk, ?_⟩
    walk_at "d"
    refine br_nyes rfl ?_
    walk_at "d"
    refine use_refused hj4 hya rfl b2 (by rw [k1]; exact hyb.rp _ tk) ?_
    rw [k1]
    walk_at "d"
    refine ⟨_, rfl, hyb.rp _ tk, ?_⟩
    walk_at "d"
    refine br_nyes rfl ?_
    walk_at "x"
    walk_at "d"
    refine use_refused hj4 hwa hzb.ty b3 (by rw [k2]; exact hzb.rp _ tn) ?_
    rw [k2]
    walk_at "d"
    refine ⟨_, rfl, hzb.rp _ tn, ?_⟩
    walk_at "d"
    refine br_nyes rfl ?_
    walk_at "x"
    exact ⟨_, rfl⟩
  · subst e
    walk_at "d"
    exact ⟨⟨rfl, trivial⟩, h _ (hb4.mono (by omega))⟩
section
variable {P : R → List Sl → Prop}
theorem use_cell {ns : List Int} {k : Nat} (hl : ns.length ≤ 63) (q : ∀ v : Int, P (.d (.int v)) [.d (.ro (ns.map .int)), .d (.int k)]) :
    ∀ Ψ : R → List Sl → Prop, (∀ r as', ownOut r → P r as' → Ψ r as') → S_l_cell [.d (.ro (ns.map .int)), .d (.int k)] Ψ := fun Ψ kk => ⟨ns, k, rfl, hl, fun v => kk _ _ trivial (q v)⟩
theorem use_box {v : Int} (q : ∀ b x, BoxD 0 x → P (.own b x) [.d (.int v)]) :
    ∀ Ψ : R → List Sl → Prop, (∀ r as', ownOut r → P r as' → Ψ r as') → S_l_box [.d (.int v)] Ψ := fun Ψ kk => ⟨v, rfl, fun b x h => kk _ _ trivial (q b x h)⟩
end
theorem ws_law : WsC (Fx := XF) S_law t_law [.no, .no, .no, .no] := by
  rintro K cn as Φ fx ⟨ns0, rfl, hl, h⟩
  unfold t_law
  walk_at "d0"
  walk_at "d"
  refine w_for (wi_range1 ?_)
  walk_at "d"
  rw [List.length_map]
  refine ⟨_, rfl, by split <;> first | omega | (split <;> omega), by split <;> first | omega | (split <;> omega), ?_⟩
  refine ⟨fun i δ' => ∃ s1 s2 s3 s4, δ' = [.d (.ro (ns0.map .int)), s1, s2, s3, s4], ⟨_, _, _, _, rfl⟩, fun i d δ' hd ⟨s1, s2, s3, s4, e⟩ => ?_, fun δ' ⟨s1, s2, s3, s4, e⟩ => ?_⟩
  · subst e
    obtain ⟨hi, rfl⟩ := rangeD_get hd
    rw [Int.zero_add]
    walk_at "d"
    refine use_cell hl fun v => ?_
    walk_at "d"
    refine use_box fun b x hb => ?_
    walk_at "d"
    refine use_take hb (by omega) (by omega) (by omega) fun r1 x1 g1 g2 hb1 => ?_
    have hix : ∃ w, atI [D.str (Str.ofString "path"), .str (Str.ofString "star"), .str (Str.ofString "ring"), .str (Str.ofString "pair")] r1 = some (.str w) ∧ w ∈ kinds := by
      have : r1 = 0 ∨ r1 = 1 ∨ r1 = 2 ∨ r1 = 3 := by omega
      rcases this with e | e | e | e <;> subst e
      · exact ⟨_, rfl, by simp [kinds]⟩
      · exact ⟨_, rfl, by simp [kinds]⟩
      · exact ⟨_, rfl, by simp [kinds]⟩
      · exact ⟨_, rfl, by simp [kinds]⟩
    obtain ⟨w, ew, hw⟩ := hix
    walk_at "d"
    refine dIxC_l ew ?_
    walk_at "d"
    refine use_many hb1 (by omega) hw fun v2 x2 hg hb2 => ?_
    walk_at "d"
    refine use_refr hb2 (by omega) hg fun x3 hb3 => ?_
    walk_at "d"
    refine use_rows_right hg ?_
    walk_at "d"
    walk_at "x"
    exact ⟨_, _, _, _, rfl⟩
  · subst e
    walk_at "d"
    exact ⟨trivial, h⟩

def top (i : Nat) : Stmt := PySem.Challenge.pw_farmarks_k86_kinds_and_least_signs.main.body.getD i (.Pass ⟨0, 0, 0, 0⟩)
abbrev s_is_whole : Stmt := top 17
theorem sc_is_whole : FnScope N_is_whole ["thing", "low", "high"] (defScope s_is_whole) := ⟨rfl, rfl, rfl, by decide +kernel, rfl, by decide +kernel, by decide +kernel⟩
abbrev s_need_number : Stmt := top 24
theorem sc_need_number : FnScope N_need_number ["thing", "low"] (defScope s_need_number) := ⟨rfl, rfl, rfl, by decide +kernel, rfl, by decide +kernel, by decide +kernel⟩
abbrev s_row_by : Stmt := top 26
theorem sc_row_by : FnScope N_row_by ["number"] (defScope s_row_by) := ⟨rfl, rfl, rfl, by decide +kernel, rfl, by decide +kernel, by decide +kernel⟩
abbrev s_least_signs : Stmt := top 27
theorem sc_least_signs : FnScope N_least_signs ["many"] (defScope s_least_signs) := ⟨rfl, rfl, rfl, by decide +kernel, rfl, by decide +kernel, by decide +kernel⟩
abbrev s_need_kind : Stmt := top 42
theorem sc_need_kind : FnScope N_need_kind ["word", "many", "most"] (defScope s_need_kind) := ⟨rfl, rfl, rfl, by decide +kernel, rfl, by decide +kernel, by decide +kernel⟩
abbrev s_rows_for_pairs : Stmt := top 43
theorem sc_rows_for_pairs : FnScope N_rows_for_pairs ["many"] (defScope s_rows_for_pairs) := ⟨rfl, rfl, rfl, by decide +kernel, rfl, by decide +kernel, by decide +kernel⟩
abbrev s_why_many : Stmt := top 44
theorem sc_why_many : FnScope N_why_many ["word", "many"] (defScope s_why_many) := ⟨rfl, rfl, rfl, by decide +kernel, rfl, by decide +kernel, by decide +kernel⟩
abbrev s_kind_rows : Stmt := top 45
theorem sc_kind_rows : FnScope N_kind_rows ["word", "many"] (defScope s_kind_rows) := ⟨rfl, rfl, rfl, by decide +kernel, rfl, by decide +kernel, by decide +kernel⟩
abbrev s_kind_far : Stmt := top 48
theorem sc_kind_far : FnScope N_kind_far ["word", "many", "one", "other"] (defScope s_kind_far) := ⟨rfl, rfl, rfl, by decide +kernel, rfl, by decide +kernel, by decide +kernel⟩
abbrev s_kind_web : Stmt := top 49
theorem sc_kind_web : FnScope N_kind_web ["word", "many"] (defScope s_kind_web) := ⟨rfl, rfl, rfl, by decide +kernel, rfl, by decide +kernel, by decide +kernel⟩
abbrev s_l_cell : Stmt := top 51
theorem sc_l_cell : FnScope N_l_cell ["_law_script", "_law_k"] (defScope s_l_cell) := ⟨rfl, rfl, rfl, by decide +kernel, rfl, by decide +kernel, by decide +kernel⟩
abbrev s_l_box : Stmt := top 52
theorem sc_l_box : FnScope N_l_box ["_law_cell_here"] (defScope s_l_box) := ⟨rfl, rfl, rfl, by decide +kernel, rfl, by decide +kernel, by decide +kernel⟩
abbrev s_l_take : Stmt := top 53
theorem sc_l_take : FnScope N_l_take ["_law_box_here", "_law_many_here"] (defScope s_l_take) := ⟨rfl, rfl, rfl, by decide +kernel, rfl, by decide +kernel, by decide +kernel⟩
abbrev s_l_signs : Stmt := top 54
theorem sc_l_signs : FnScope N_l_signs ["_law_number"] (defScope s_l_signs) := ⟨rfl, rfl, rfl, by decide +kernel, rfl, by decide +kernel, by decide +kernel⟩
abbrev s_l_longest : Stmt := top 55
theorem sc_l_longest : FnScope N_l_longest ["_law_many_here"] (defScope s_l_longest) := ⟨rfl, rfl, rfl, by decide +kernel, rfl, by decide +kernel, by decide +kernel⟩
abbrev s_l_pairs : Stmt := top 56
theorem sc_l_pairs : FnScope N_l_pairs ["_law_many_here"] (defScope s_l_pairs) := ⟨rfl, rfl, rfl, by decide +kernel, rfl, by decide +kernel, by decide +kernel⟩
abbrev s_l_many : Stmt := top 57
theorem sc_l_many : FnScope N_l_many ["_law_box_here", "_law_word"] (defScope s_l_many) := ⟨rfl, rfl, rfl, by decide +kernel, rfl, by decide +kernel, by decide +kernel⟩
abbrev s_l_call : Stmt := top 58
theorem sc_l_call : FnScope N_l_call ["_law_way", "_law_word", "_law_many_here"] (defScope s_l_call) := ⟨rfl, rfl, rfl, by decide +kernel, rfl, by decide +kernel, by decide +kernel⟩
abbrev s_l_refused : Stmt := top 59
theorem sc_l_refused : FnScope N_l_refused ["_law_way", "_law_word", "_law_many_here"] (defScope s_l_refused) := ⟨rfl, rfl, rfl, by decide +kernel, rfl, by decide +kernel, by decide +kernel⟩
abbrev s_l_rows_right : Stmt := top 60
theorem sc_l_rows_right : FnScope N_l_rows_right ["_law_word", "_law_many_here"] (defScope s_l_rows_right) := ⟨rfl, rfl, rfl, by decide +kernel, rfl, by decide +kernel, by decide +kernel⟩
abbrev s_l_refusals_right : Stmt := top 61
theorem sc_l_refusals_right : FnScope N_l_refusals_right ["_law_box_here", "_law_word", "_law_many_here"] (defScope s_l_refusals_right) := ⟨rfl, rfl, rfl, by decide +kernel, rfl, by decide +kernel, by decide +kernel⟩
abbrev s_law : Stmt := top 62
theorem sc_law : FnScope N_law ["_law_script"] (defScope s_law) := ⟨rfl, rfl, rfl, by decide +kernel, rfl, by decide +kernel, by decide +kernel⟩
abbrev s_NoPlaces : Stmt := inClass (top 3) 0
theorem sc_NoPlaces : FnScope ["self", "found"] ["self", "found"] (defScope s_NoPlaces) := ⟨rfl, rfl, rfl, by decide +kernel, rfl, by decide +kernel, by decide +kernel⟩
abbrev s_NoName : Stmt := inClass (top 4) 0
theorem sc_NoName : FnScope ["self", "found"] ["self", "found"] (defScope s_NoName) := ⟨rfl, rfl, rfl, by decide +kernel, rfl, by decide +kernel, by decide +kernel⟩
abbrev s_Twice : Stmt := inClass (top 5) 0
theorem sc_Twice : FnScope ["self", "found"] ["self", "found"] (defScope s_Twice) := ⟨rfl, rfl, rfl, by decide +kernel, rfl, by decide +kernel, by decide +kernel⟩
abbrev s_NoTies : Stmt := inClass (top 6) 0
theorem sc_NoTies : FnScope ["self", "found"] ["self", "found"] (defScope s_NoTies) := ⟨rfl, rfl, rfl, by decide +kernel, rfl, by decide +kernel, by decide +kernel⟩
abbrev s_NoTie : Stmt := inClass (top 7) 0
theorem sc_NoTie : FnScope ["self", "found"] ["self", "found"] (defScope s_NoTie) := ⟨rfl, rfl, rfl, by decide +kernel, rfl, by decide +kernel, by decide +kernel⟩
abbrev s_NoPlace : Stmt := inClass (top 8) 0
theorem sc_NoPlace : FnScope ["self", "found"] ["self", "found"] (defScope s_NoPlace) := ⟨rfl, rfl, rfl, by decide +kernel, rfl, by decide +kernel, by decide +kernel⟩
abbrev s_Loop : Stmt := inClass (top 9) 0
theorem sc_Loop : FnScope ["self", "found"] ["self", "found"] (defScope s_Loop) := ⟨rfl, rfl, rfl, by decide +kernel, rfl, by decide +kernel, by decide +kernel⟩
abbrev s_NoLength : Stmt := inClass (top 10) 0
theorem sc_NoLength : FnScope ["self", "found"] ["self", "found"] (defScope s_NoLength) := ⟨rfl, rfl, rfl, by decide +kernel, rfl, by decide +kernel, by decide +kernel⟩
abbrev s_NoNumber : Stmt := inClass (top 11) 0
theorem sc_NoNumber : FnScope ["self", "found"] ["self", "found"] (defScope s_NoNumber) := ⟨rfl, rfl, rfl, by decide +kernel, rfl, by decide +kernel, by decide +kernel⟩
abbrev s_NoSigns : Stmt := inClass (top 12) 0
theorem sc_NoSigns : FnScope ["self", "found"] ["self", "found"] (defScope s_NoSigns) := ⟨rfl, rfl, rfl, by decide +kernel, rfl, by decide +kernel, by decide +kernel⟩
abbrev s_NoKind : Stmt := inClass (top 13) 0
theorem sc_NoKind : FnScope ["self", "found"] ["self", "found"] (defScope s_NoKind) := ⟨rfl, rfl, rfl, by decide +kernel, rfl, by decide +kernel, by decide +kernel⟩
abbrev s_Tied : Stmt := inClass (top 14) 0
theorem sc_Tied : FnScope ["self", "one", "other"] ["self", "one", "other"] (defScope s_Tied) := ⟨rfl, rfl, rfl, by decide +kernel, rfl, by decide +kernel, by decide +kernel⟩

local macro_rules | `(tactic| walk_at "lenY") => `(tactic| (intro as Φ Y h; repeat first | (obtain ⟨h0, _⟩ := h; subst h0; rfl) | (obtain ⟨_, h⟩ := h)))
local macro_rules | `(tactic| walk_at "len") => `(tactic| (intro as Φ h; repeat first | (obtain ⟨h0, _⟩ := h; subst h0; rfl) | (obtain ⟨_, h⟩ := h)))
theorem len_is_whole : ∀ as Φ, S_is_whole as Φ → as.length = 3 := by walk_at "len"
theorem len_need_number : ∀ as Φ Y, S_need_number as Φ Y → as.length = 2 := by walk_at "lenY"
theorem len_row_by : ∀ as Φ Y, S_row_by as Φ Y → as.length = 1 := by walk_at "lenY"
theorem len_least_signs : ∀ as Φ Y, S_least_signs as Φ Y → as.length = 1 := by walk_at "lenY"
theorem len_need_kind : ∀ as Φ Y, S_need_kind as Φ Y → as.length = 3 := by walk_at "lenY"
theorem len_rows_for_pairs : ∀ as Φ, S_rows_for_pairs as Φ → as.length = 1 := by walk_at "len"
theorem len_why_many : ∀ as Φ Y, S_why_many as Φ Y → as.length = 2 := by walk_at "lenY"
theorem len_kind_rows : ∀ as Φ Y, S_kind_rows as Φ Y → as.length = 2 := by walk_at "lenY"
theorem len_kind_far : ∀ as Φ Y, S_kind_far as Φ Y → as.length = 4 := by walk_at "lenY"
theorem len_kind_web : ∀ as Φ Y, S_kind_web as Φ Y → as.length = 2 := by walk_at "lenY"
theorem len_l_cell : ∀ as Φ, S_l_cell as Φ → as.length = 2 := by walk_at "len"
theorem len_l_box : ∀ as Φ, S_l_box as Φ → as.length = 1 := by walk_at "len"
theorem len_l_take : ∀ as Φ, S_l_take as Φ → as.length = 2 := by walk_at "len"
theorem len_l_signs : ∀ as Φ, S_l_signs as Φ → as.length = 1 := by walk_at "len"
theorem len_l_longest : ∀ as Φ, S_l_longest as Φ → as.length = 1 := by walk_at "len"
theorem len_l_pairs : ∀ as Φ, S_l_pairs as Φ → as.length = 1 := by walk_at "len"
theorem len_l_many : ∀ as Φ, S_l_many as Φ → as.length = 2 := by walk_at "len"
theorem len_l_call : ∀ as Φ Y, S_l_call as Φ Y → as.length = 3 := by walk_at "lenY"
theorem len_l_refused : ∀ as Φ, S_l_refused as Φ → as.length = 3 := by walk_at "len"
theorem len_l_rows_right : ∀ as Φ, S_l_rows_right as Φ → as.length = 2 := by walk_at "len"
theorem len_l_refusals_right : ∀ as Φ, S_l_refusals_right as Φ → as.length = 3 := by walk_at "len"
theorem len_law : ∀ as Φ, S_law as Φ → as.length = 1 := by walk_at "len"
theorem reps_ints {K : PySem.W.Frag} {G : Hp} : ∀ ns : List Int, Reps K G (ns.map D.int) (ns.map V.int)
  | [] => reps_nil
  | n :: ns => reps_cons rep_int (reps_ints ns)
theorem law_in {K : PySem.W.Frag} {H : Hp} {a : Addr} {ns : List Int} (hl : ns.length ≤ 63) (hb : ∀ z ∈ ns, Builtin.Int.intBits z ≤ 1048576) (h : SqL K H a (ns.map V.int)) : lift K S_law [.ref a] H (fun v _ => v = .bl true) (fun _ _ _ => False) := by
  refine ⟨fun _ => none, H, [.d (.ro (ns.map .int))], ⟨fun b o e => (nomatch e), Ex.refl H, fun b => .inl rfl, ⟨_, _, rfl, ⟨_, rfl, ?_⟩, rfl⟩, fun a h => (nomatch h), List.nodup_nil⟩, ns, rfl, hl, fun v G' H' _ _ rv => ?_⟩
  · unfold Rep
    exact ⟨a, _, rfl, h, reps_ints ns⟩
  · have rv' : Rep K G' (.bl true) v := rv
    unfold Rep at rv'
    exact rv'
/-- what the top has written -/
structure DefOk (K : PySem.W.Frag) (mg : Str → Option Value) (x : Str) (st : Stmt) (ps : List Str) (a : Addr) (fd : FuncData) : Prop where
  fn : Fun K x x st a fd
  b : Binds K fd ps []
  g : mg x = some (.ref a)
structure Txt (K : PySem.W.Frag) (mg : Str → Option Value) (cn : Cn) where
  xf : XF K cn
  xb : ExcBase K mg cn.bs "MarkError"
  fi_NoPlaces : Addr
  fd_NoPlaces : FuncData
  x_NoPlaces : ExcDef K mg (cn.ad XNoPlaces) "NoPlaces" "NoPlaces.__init__" s_NoPlaces ["found"] fi_NoPlaces fd_NoPlaces
  fi_NoName : Addr
  fd_NoName : FuncData
  x_NoName : ExcDef K mg (cn.ad XNoName) "NoName" "NoName.__init__" s_NoName ["found"] fi_NoName fd_NoName
  fi_Twice : Addr
  fd_Twice : FuncData
  x_Twice : ExcDef K mg (cn.ad XTwice) "Twice" "Twice.__init__" s_Twice ["found"] fi_Twice fd_Twice
  fi_NoTies : Addr
  fd_NoTies : FuncData
  x_NoTies : ExcDef K mg (cn.ad XNoTies) "NoTies" "NoTies.__init__" s_NoTies ["found"] fi_NoTies fd_NoTies
  fi_NoTie : Addr
  fd_NoTie : FuncData
  x_NoTie : ExcDef K mg (cn.ad XNoTie) "NoTie" "NoTie.__init__" s_NoTie ["found"] fi_NoTie fd_NoTie
  fi_NoPlace : Addr
  fd_NoPlace : FuncData
  x_NoPlace : ExcDef K mg (cn.ad XNoPlace) "NoPlace" "NoPlace.__init__" s_NoPlace ["found"] fi_NoPlace fd_NoPlace
  fi_Loop : Addr
  fd_Loop : FuncData
  x_Loop : ExcDef K mg (cn.ad XLoop) "Loop" "Loop.__init__" s_Loop ["found"] fi_Loop fd_Loop
  fi_NoLength : Addr
  fd_NoLength : FuncData
  x_NoLength : ExcDef K mg (cn.ad XNoLength) "NoLength" "NoLength.__init__" s_NoLength ["found"] fi_NoLength fd_NoLength
  fi_NoNumber : Addr
  fd_NoNumber : FuncData
  x_NoNumber : ExcDef K mg (cn.ad XNoNumber) "NoNumber" "NoNumber.__init__" s_NoNumber ["found"] fi_NoNumber fd_NoNumber
  fi_NoSigns : Addr
  fd_NoSigns : FuncData
  x_NoSigns : ExcDef K mg (cn.ad XNoSigns) "NoSigns" "NoSigns.__init__" s_NoSigns ["found"] fi_NoSigns fd_NoSigns
  fi_NoKind : Addr
  fd_NoKind : FuncData
  x_NoKind : ExcDef K mg (cn.ad XNoKind) "NoKind" "NoKind.__init__" s_NoKind ["found"] fi_NoKind fd_NoKind
  fi_Tied : Addr
  fd_Tied : FuncData
  x_Tied : ExcDef K mg (cn.ad XTied) "Tied" "Tied.__init__" s_Tied ["other", "one"] fi_Tied fd_Tied
  a_is_whole : Addr
  f_is_whole : FuncData
  d_is_whole : DefOk K mg "is_whole" s_is_whole ["thing", "low", "high"] a_is_whole f_is_whole
  a_need_number : Addr
  f_need_number : FuncData
  d_need_number : DefOk K mg "need_number" s_need_number ["thing", "low"] a_need_number f_need_number
  a_row_by : Addr
  f_row_by : FuncData
  d_row_by : DefOk K mg "row_by" s_row_by ["number"] a_row_by f_row_by
  a_least_signs : Addr
  f_least_signs : FuncData
  d_least_signs : DefOk K mg "least_signs" s_least_signs ["many"] a_least_signs f_least_signs
  a_need_kind : Addr
  f_need_kind : FuncData
  d_need_kind : DefOk K mg "need_kind" s_need_kind ["word", "many", "most"] a_need_kind f_need_kind
  a_rows_for_pairs : Addr
  f_rows_for_pairs : FuncData
  d_rows_for_pairs : DefOk K mg "rows_for_pairs" s_rows_for_pairs ["many"] a_rows_for_pairs f_rows_for_pairs
  a_why_many : Addr
  f_why_many : FuncData
  d_why_many : DefOk K mg "why_many" s_why_many ["word", "many"] a_why_many f_why_many
  a_kind_rows : Addr
  f_kind_rows : FuncData
  d_kind_rows : DefOk K mg "kind_rows" s_kind_rows ["word", "many"] a_kind_rows f_kind_rows
  a_kind_far : Addr
  f_kind_far : FuncData
  d_kind_far : DefOk K mg "kind_far" s_kind_far ["word", "many", "one", "other"] a_kind_far f_kind_far
  a_kind_web : Addr
  f_kind_web : FuncData
  d_kind_web : DefOk K mg "kind_web" s_kind_web ["word", "many"] a_kind_web f_kind_web
  a_l_cell : Addr
  f_l_cell : FuncData
  d_l_cell : DefOk K mg "_law_cell" s_l_cell ["_law_script", "_law_k"] a_l_cell f_l_cell
  a_l_box : Addr
  f_l_box : FuncData
  d_l_box : DefOk K mg "_law_box" s_l_box ["_law_cell_here"] a_l_box f_l_box
  a_l_take : Addr
  f_l_take : FuncData
  d_l_take : DefOk K mg "_law_take" s_l_take ["_law_box_here", "_law_many_here"] a_l_take f_l_take
  a_l_signs : Addr
  f_l_signs : FuncData
  d_l_signs : DefOk K mg "_law_signs" s_l_signs ["_law_number"] a_l_signs f_l_signs
  a_l_longest : Addr
  f_l_longest : FuncData
  d_l_longest : DefOk K mg "_law_longest" s_l_longest ["_law_many_here"] a_l_longest f_l_longest
  a_l_pairs : Addr
  f_l_pairs : FuncData
  d_l_pairs : DefOk K mg "_law_pairs" s_l_pairs ["_law_many_here"] a_l_pairs f_l_pairs
  a_l_many : Addr
  f_l_many : FuncData
  d_l_many : DefOk K mg "_law_many" s_l_many ["_law_box_here", "_law_word"] a_l_many f_l_many
  a_l_call : Addr
  f_l_call : FuncData
  d_l_call : DefOk K mg "_law_call" s_l_call ["_law_way", "_law_word", "_law_many_here"] a_l_call f_l_call
  a_l_refused : Addr
  f_l_refused : FuncData
  d_l_refused : DefOk K mg "_law_refused" s_l_refused ["_law_way", "_law_word", "_law_many_here"] a_l_refused f_l_refused
  a_l_rows_right : Addr
  f_l_rows_right : FuncData
  d_l_rows_right : DefOk K mg "_law_rows_right" s_l_rows_right ["_law_word", "_law_many_here"] a_l_rows_right f_l_rows_right
  a_l_refusals_right : Addr
  f_l_refusals_right : FuncData
  d_l_refusals_right : DefOk K mg "_law_refusals_right" s_l_refusals_right ["_law_box_here", "_law_word", "_law_many_here"] a_l_refusals_right f_l_refusals_right
  a_law : Addr
  f_law : FuncData
  d_law : DefOk K mg "law" s_law ["_law_script"] a_law f_law
  g_KINDS : mg "KINDS" = some (.ref (cn.ad K_KINDS))
  n_bool : mg "bool" = none
  n_divmod : mg "divmod" = none
  n_int : mg "int" = none
  n_isinstance : mg "isinstance" = none
  n_len : mg "len" = none
  n_list : mg "list" = none
  n_max : mg "max" = none
  n_min : mg "min" = none
  n_range : mg "range" = none
  n_repr : mg "repr" = none
  n_str : mg "str" = none
  c_LETTERS_kinds : ∃ t, mg "LETTERS_kinds" = some (.str "abcdefghijkl" t)
  c_LETTERS_words : ∃ t, mg "LETTERS_words" = some (.str "abcdefghijklmnopqrstuvwxyz" t)
  c_MOST_LENGTH : ∃ t, mg "MOST_LENGTH" = some (.int 1000000 t)
  c_MOST_PLACES_kinds : ∃ t, mg "MOST_PLACES_kinds" = some (.int 12 t)
  c_MOST_PLACES_webs : ∃ t, mg "MOST_PLACES_webs" = some (.int 12 t)
  c_MOST_SIGNS : ∃ t, mg "MOST_SIGNS" = some (.int 1500 t)
  c_MOST_TIES : ∃ t, mg "MOST_TIES" = some (.int 40 t)
  c_MOST_kinds : ∃ t, mg "MOST_kinds" = some (.int 1000 t)
  c_MOST_signs : ∃ t, mg "MOST_signs" = some (.int 999999999999999999999999999999 t)
section
variable {P : Program} {w : World} {K : PySem.W.Frag} {mg : Str → Option Value} {base : Heap} {cn : Cn}
theorem ini_NoPlaces (T : Txt K mg cn) : FnOk P w K mg base CX0 1 T.fi_NoPlaces T.fd_NoPlaces ["self", "found"] (spInit K ["found"]) := by
  refine T.x_NoPlaces.fn.ok sc_NoPlaces (fun vs H Q E h => spInit_len (fl := ["found"]) h) (fun cdv A outer s H vs Q E hr h => ⟨_, ?_, init_reads (N := ["self", "found"]) (m := "no places of a web") rfl h⟩)
  exact (pss_cons (ps_expr (pe_meinit (by rfl) T.xb.g T.xb.rd T.xb.vV (pa_cons (pv 0) (pa_cons pe_str pa_nil)))) (pss_one (ps_ost (pv 0) (pv 1))))
theorem ini_NoName (T : Txt K mg cn) : FnOk P w K mg base CX0 1 T.fi_NoName T.fd_NoName ["self", "found"] (spInit K ["found"]) := by
  refine T.x_NoName.fn.ok sc_NoName (fun vs H Q E h => spInit_len (fl := ["found"]) h) (fun cdv A outer s H vs Q E hr h => ⟨_, ?_, init_reads (N := ["self", "found"]) (m := "no name") rfl h⟩)
  exact (pss_cons (ps_expr (pe_meinit (by rfl) T.xb.g T.xb.rd T.xb.vV (pa_cons (pv 0) (pa_cons pe_str pa_nil)))) (pss_one (ps_ost (pv 0) (pv 1))))
theorem ini_Twice (T : Txt K mg cn) : FnOk P w K mg base CX0 1 T.fi_Twice T.fd_Twice ["self", "found"] (spInit K ["found"]) := by
  refine T.x_Twice.fn.ok sc_Twice (fun vs H Q E h => spInit_len (fl := ["found"]) h) (fun cdv A outer s H vs Q E hr h => ⟨_, ?_, init_reads (N := ["self", "found"]) (m := "a name that stands ahead") rfl h⟩)
  exact (pss_cons (ps_expr (pe_meinit (by rfl) T.xb.g T.xb.rd T.xb.vV (pa_cons (pv 0) (pa_cons pe_str pa_nil)))) (pss_one (ps_ost (pv 0) (pv 1))))
theorem ini_NoTies (T : Txt K mg cn) : FnOk P w K mg base CX0 1 T.fi_NoTies T.fd_NoTies ["self", "found"] (spInit K ["found"]) := by
  refine T.x_NoTies.fn.ok sc_NoTies (fun vs H Q E h => spInit_len (fl := ["found"]) h) (fun cdv A outer s H vs Q E hr h => ⟨_, ?_, init_reads (N := ["self", "found"]) (m := "no ties of a web") rfl h⟩)
  exact (pss_cons (ps_expr (pe_meinit (by rfl) T.xb.g T.xb.rd T.xb.vV (pa_cons (pv 0) (pa_cons pe_str pa_nil)))) (pss_one (ps_ost (pv 0) (pv 1))))
theorem ini_NoTie (T : Txt K mg cn) : FnOk P w K mg base CX0 1 T.fi_NoTie T.fd_NoTie ["self", "found"] (spInit K ["found"]) := by
  refine T.x_NoTie.fn.ok sc_NoTie (fun vs H Q E h => spInit_len (fl := ["found"]) h) (fun cdv A outer s H vs Q E hr h => ⟨_, ?_, init_reads (N := ["self", "found"]) (m := "no tie") rfl h⟩)
  exact (pss_cons (ps_expr (pe_meinit (by rfl) T.xb.g T.xb.rd T.xb.vV (pa_cons (pv 0) (pa_cons pe_str pa_nil)))) (pss_one (ps_ost (pv 0) (pv 1))))
theorem ini_NoPlace (T : Txt K mg cn) : FnOk P w K mg base CX0 1 T.fi_NoPlace T.fd_NoPlace ["self", "found"] (spInit K ["found"]) := by
  refine T.x_NoPlace.fn.ok sc_NoPlace (fun vs H Q E h => spInit_len (fl := ["found"]) h) (fun cdv A outer s H vs Q E hr h => ⟨_, ?_, init_reads (N := ["self", "found"]) (m := "no place of the web") rfl h⟩)
  exact (pss_cons (ps_expr (pe_meinit (by rfl) T.xb.g T.xb.rd T.xb.vV (pa_cons (pv 0) (pa_cons pe_str pa_nil)))) (pss_one (ps_ost (pv 0) (pv 1))))
theorem ini_Loop (T : Txt K mg cn) : FnOk P w K mg base CX0 1 T.fi_Loop T.fd_Loop ["self", "found"] (spInit K ["found"]) := by
  refine T.x_Loop.fn.ok sc_Loop (fun vs H Q E h => spInit_len (fl := ["found"]) h) (fun cdv A outer s H vs Q E hr h => ⟨_, ?_, init_reads (N := ["self", "found"]) (m := "a tie from a place to itself") rfl h⟩)
  exact (pss_cons (ps_expr (pe_meinit (by rfl) T.xb.g T.xb.rd T.xb.vV (pa_cons (pv 0) (pa_cons pe_str pa_nil)))) (pss_one (ps_ost (pv 0) (pv 1))))
theorem ini_NoLength (T : Txt K mg cn) : FnOk P w K mg base CX0 1 T.fi_NoLength T.fd_NoLength ["self", "found"] (spInit K ["found"]) := by
  refine T.x_NoLength.fn.ok sc_NoLength (fun vs H Q E h => spInit_len (fl := ["found"]) h) (fun cdv A outer s H vs Q E hr h => ⟨_, ?_, init_reads (N := ["self", "found"]) (m := "no length of a tie") rfl h⟩)
  exact (pss_cons (ps_expr (pe_meinit (by rfl) T.xb.g T.xb.rd T.xb.vV (pa_cons (pv 0) (pa_cons pe_str pa_nil)))) (pss_one (ps_ost (pv 0) (pv 1))))
theorem ini_NoNumber (T : Txt K mg cn) : FnOk P w K mg base CX0 1 T.fi_NoNumber T.fd_NoNumber ["self", "found"] (spInit K ["found"]) := by
  refine T.x_NoNumber.fn.ok sc_NoNumber (fun vs H Q E h => spInit_len (fl := ["found"]) h) (fun cdv A outer s H vs Q E hr h => ⟨_, ?_, init_reads (N := ["self", "found"]) (m := "no number for this") rfl h⟩)
  exact (pss_cons (ps_expr (pe_meinit (by rfl) T.xb.g T.xb.rd T.xb.vV (pa_cons (pv 0) (pa_cons pe_str pa_nil)))) (pss_one (ps_ost (pv 0) (pv 1))))
theorem ini_NoSigns (T : Txt K mg cn) : FnOk P w K mg base CX0 1 T.fi_NoSigns T.fd_NoSigns ["self", "found"] (spInit K ["found"]) := by
  refine T.x_NoSigns.fn.ok sc_NoSigns (fun vs H Q E h => spInit_len (fl := ["found"]) h) (fun cdv A outer s H vs Q E hr h => ⟨_, ?_, init_reads (N := ["self", "found"]) (m := "no row of signs") rfl h⟩)
  exact (pss_cons (ps_expr (pe_meinit (by rfl) T.xb.g T.xb.rd T.xb.vV (pa_cons (pv 0) (pa_cons pe_str pa_nil)))) (pss_one (ps_ost (pv 0) (pv 1))))
theorem ini_NoKind (T : Txt K mg cn) : FnOk P w K mg base CX0 1 T.fi_NoKind T.fd_NoKind ["self", "found"] (spInit K ["found"]) := by
  refine T.x_NoKind.fn.ok sc_NoKind (fun vs H Q E h => spInit_len (fl := ["found"]) h) (fun cdv A outer s H vs Q E hr h => ⟨_, ?_, init_reads (N := ["self", "found"]) (m := "no kind of webs") rfl h⟩)
  exact (pss_cons (ps_expr (pe_meinit (by rfl) T.xb.g T.xb.rd T.xb.vV (pa_cons (pv 0) (pa_cons pe_str pa_nil)))) (pss_one (ps_ost (pv 0) (pv 1))))
theorem ini_Tied (T : Txt K mg cn) : FnOk P w K mg base CX0 1 T.fi_Tied T.fd_Tied ["self", "one", "other"] (spInit K ["other", "one"]) := by
  refine T.x_Tied.fn.ok sc_Tied (fun vs H Q E h => spInit_len (fl := ["other", "one"]) h) (fun cdv A outer s H vs Q E hr h => ⟨_, ?_, init_reads2 (N := ["self", "one", "other"]) (m := "tied already") rfl h⟩)
  exact (pss_cons (ps_expr (pe_meinit (by rfl) T.xb.g T.xb.rd T.xb.vV (pa_cons (pv 0) (pa_cons pe_str pa_nil)))) (pss_cons (ps_ost (pv 0) (pv 1)) (pss_one (ps_ost (pv 0) (pv 2)))))
theorem ok_is_whole (T : Txt K mg cn) : FnG P w K mg base (L2.CX P w) 1 T.a_is_whole T.f_is_whole ["thing", "low", "high"] (lift K S_is_whole) := by
  refine okGX T.d_is_whole.fn sc_is_whole (fun vs H Q E h => lift_len len_is_whole h) (fun cdv A outer s H vs Q E hg hr h => ⟨t_is_whole K cn, ?_, lift_WsC (n := 3) (m := 0) T.xf len_is_whole rfl ws_is_whole h⟩)
  exact (pss_cons (ps_if (PW.pt (pw_or (pt_not (pt_tru (pe_callB call_isiB (by rfl) T.n_isinstance (by decide +kernel) (pa_cons (pv 0) (pa_cons (pe_bltn (v := .ty "int") (u := .type "int") (by rfl) T.n_int (by decide +kernel) rfl) pa_nil))) (fun _ => rfl))) (pw_or1 (pt_tru (pe_callB call_isiB (by rfl) T.n_isinstance (by decide +kernel) (pa_cons (pv 0) (pa_cons (pe_bltn (v := .ty "bool") (u := .type "bool") (by rfl) T.n_bool (by decide +kernel) rfl) pa_nil))) (fun _ => rfl))))) (pss_one (ps_ret pe_bl)) pss_nil)
      (pss_one (ps_ret (pe_chain op_leA op_leA (pv 1) (pv 0) (pv 2)))))
theorem ok_need_number (T : Txt K mg cn) (G_is_whole : FnG P w K mg base (L2.CX P w) 1 T.a_is_whole T.f_is_whole ["thing", "low", "high"] (lift K S_is_whole)) : FnG P w K mg base (L2.CX P w) 3 T.a_need_number T.f_need_number ["thing", "low"] (liftX K cn S_need_number) := by
  refine okGX T.d_need_number.fn sc_need_number (fun vs H Q E h => liftX_len len_need_number h) (fun cdv A outer s H vs Q E hg hr h => ⟨t_need_number K cn (fun cls d _ H => E cls d H), ?_, liftX_WsC (n := 2) (m := 0) T.xf len_need_number rfl ws_need_number h⟩)
  exact (pss_one (ps_if (pt_not (pt_tru (pe_callG G_is_whole hg (hr.mono (by decide)) (by rfl) T.d_is_whole.g T.d_is_whole.fn.kp T.d_is_whole.b .nil passL (pa_cons (pv 0) (pa_cons (pv 1) (pa_cons (pe_glob rfl T.c_MOST_signs.choose_spec ⟨_, rfl⟩) pa_nil)))) (fun _ => rfl))) (pss_one ps_never) pss_nil))
theorem ok_row_by (T : Txt K mg cn) (G_need_number : FnG P w K mg base (L2.CX P w) 3 T.a_need_number T.f_need_number ["thing", "low"] (liftX K cn S_need_number)) : FnG P w K mg base (L2.CX P w) 4 T.a_row_by T.f_row_by ["number"] (liftX K cn S_row_by) := by
  refine okGX T.d_row_by.fn sc_row_by (fun vs H Q E h => liftX_len len_row_by h) (fun cdv A outer s H vs Q E hg hr h => ⟨t_row_by K cn (fun cls d _ H => E cls d H), ?_, liftX_WsC (n := 1) (m := 2) T.xf len_row_by rfl ws_row_by h⟩)
  exact (pss_cons (ps_expr (pe_callSG G_need_number hg (hr.mono (by decide)) (by rfl) T.d_need_number.g T.d_need_number.fn.kp T.d_need_number.b (fun σ => passAt tkX σ) (pa_cons (pv 0) (pa_cons pe_int pa_nil))))
      (pss_cons (ps_set (i := 1) sc_row_by.nd rfl (.inl rfl) (pe_lst pa_nil))
      (pss_cons (ps_while psX (pt_cmpR op_gtA (pv 0) pe_int (nomark _)) (pss_cons (ps_asg (pe_callB call_divmodA (by rfl) T.n_divmod (by decide +kernel) (pa_cons (pe_op op_subA (pv 0) pe_int) (pa_cons pe_int pa_nil))) (pg_seq rfl (pgs_cons (pg_name (i := 0) sc_row_by.nd rfl (.inl rfl)) (pgs_cons (pg_name (i := 2) sc_row_by.nd rfl (.inl rfl)) pgs_nil))))
      (pss_one (ps_expr (pe_bm PySem.F.plainAttrs_list PySem.F.slot_list_append PySem.F.type_list_append mt_appendA (pv 1) (pa_cons (pe_callTy call_strA (by rfl) T.n_str (by decide +kernel) (pa_cons (pv 2) pa_nil)) pa_nil))))))
      (pss_one (ps_ret (pe_bm PySem.F.plainAttrs_str PySem.F.slot_str_join PySem.F.type_str_join mt_joinA pe_str (pa_cons (pe_revL (pv 1)) pa_nil)))))))
theorem ok_least_signs (T : Txt K mg cn) (G_need_number : FnG P w K mg base (L2.CX P w) 3 T.a_need_number T.f_need_number ["thing", "low"] (liftX K cn S_need_number)) : FnG P w K mg base (L2.CX P w) 4 T.a_least_signs T.f_least_signs ["many"] (liftX K cn S_least_signs) := by
  refine okGX T.d_least_signs.fn sc_least_signs (fun vs H Q E h => liftX_len len_least_signs h) (fun cdv A outer s H vs Q E hg hr h => ⟨t_least_signs K cn (fun cls d _ H => E cls d H), ?_, liftX_WsC (n := 1) (m := 2) T.xf len_least_signs rfl ws_least_signs h⟩)
  exact (pss_cons (ps_expr (pe_callSG G_need_number hg (hr.mono (by decide)) (by rfl) T.d_need_number.g T.d_need_number.fn.kp T.d_need_number.b (fun σ => passAt tkX σ) (pa_cons (pv 0) (pa_cons pe_int pa_nil))))
      (pss_cons (ps_set (i := 1) sc_least_signs.nd rfl (.inl rfl) pe_int)
      (pss_cons (ps_set (i := 2) sc_least_signs.nd rfl (.inl rfl) pe_int)
      (pss_cons (ps_while psX (pt_cmpR op_ltA (pv 2) (pv 0) (nomark _)) (pss_cons (ps_aug (i := 1) sc_least_signs.nd rfl (.inl rfl) pe_int iop_addA)
      (pss_one (ps_set (i := 2) sc_least_signs.nd rfl (.inl rfl) (pe_op op_addA (pe_op op_mulB pe_int (pv 2)) pe_int)))))
      (pss_one (ps_ret (pv 1)))))))
theorem ok_need_kind (T : Txt K mg cn) (G_is_whole : FnG P w K mg base (L2.CX P w) 1 T.a_is_whole T.f_is_whole ["thing", "low", "high"] (lift K S_is_whole)) : FnG P w K mg base (L2.CX P w) 3 T.a_need_kind T.f_need_kind ["word", "many", "most"] (liftX K cn S_need_kind) := by
  refine okGX T.d_need_kind.fn sc_need_kind (fun vs H Q E h => liftX_len len_need_kind h) (fun cdv A outer s H vs Q E hg hr h => ⟨t_need_kind K cn (fun cls d _ H => E cls d H), ?_, liftX_WsC (n := 3) (m := 1) T.xf len_need_kind rfl ws_need_kind h⟩)
  exact (pss_cons (ps_if (PW.pt (pw_or (pt_not (pt_tru (pe_callB call_isiB (by rfl) T.n_isinstance (by decide +kernel) (pa_cons (pv 0) (pa_cons (pe_bltn (v := .ty "str") (u := .type "str") (by rfl) T.n_str (by decide +kernel) rfl) pa_nil))) (fun _ => rfl))) (pw_or1 (pt_cmpR (op_notInXT hr.units) (pv 0) (pe_glob rfl T.g_KINDS rfl) (by rfl))))) (pss_one (ps_raise rfl tkX (pmk_oex T.x_NoKind.all.oex T.x_NoKind.iC T.x_NoKind.tI (ini_NoKind T) (hr.mono (by decide)) T.x_NoKind.b .nil pass0 (by rfl) T.x_NoKind.g (pa_cons (pv 0) pa_nil)))) pss_nil)
      (pss_cons (ps_set (i := 3) sc_need_kind.nd rfl (.inl rfl) (pe_ifExp (pt_cmpR (op_eqA hr.units) (pv 0) pe_str (nomark _)) pe_int pe_int))
      (pss_one (ps_if (PW.pt (pw_or (pt_not (pt_tru (pe_callG G_is_whole hg (hr.mono (by decide)) (by rfl) T.d_is_whole.g T.d_is_whole.fn.kp T.d_is_whole.b .nil passL (pa_cons (pv 1) (pa_cons (pv 3) (pa_cons (pe_glob rfl T.c_MOST_kinds.choose_spec ⟨_, rfl⟩) pa_nil)))) (fun _ => rfl))) (pw_or1 (PW.pt (pw_and (pt_cmpR (op_neA hr.units) (pv 0) pe_str (nomark _)) (pw_and1 (pt_cmpR op_gtA (pv 1) (pv 2) (nomark _)))))))) (pss_one (ps_raise rfl tkX (pmk_oex T.x_NoNumber.all.oex T.x_NoNumber.iC T.x_NoNumber.tI (ini_NoNumber T) (hr.mono (by decide)) T.x_NoNumber.b .nil pass0 (by rfl) T.x_NoNumber.g (pa_cons (pv 1) pa_nil)))) pss_nil))))
theorem ok_rows_for_pairs (T : Txt K mg cn) : FnG P w K mg base (L2.CX P w) 1 T.a_rows_for_pairs T.f_rows_for_pairs ["many"] (lift K S_rows_for_pairs) := by
  refine okGX T.d_rows_for_pairs.fn sc_rows_for_pairs (fun vs H Q E h => lift_len len_rows_for_pairs h) (fun cdv A outer s H vs Q E hg hr h => ⟨t_rows_for_pairs K cn, ?_, lift_WsC (n := 1) (m := 1) T.xf len_rows_for_pairs rfl ws_rows_for_pairs h⟩)
  exact (pss_cons (ps_set (i := 1) sc_rows_for_pairs.nd rfl (.inl rfl) pe_int)
      (pss_cons (ps_while psX (pt_cmpR op_ltA (pe_op op_divA (pe_op op_mulB (pv 1) (pe_op op_subA (pv 1) pe_int)) pe_int) (pv 0) (nomark _)) (pss_one (ps_set (i := 1) sc_rows_for_pairs.nd rfl (.inl rfl) (pe_op op_addA (pv 1) pe_int))))
      (pss_one (ps_ret (pv 1)))))
theorem ok_why_many (T : Txt K mg cn) (G_need_kind : FnG P w K mg base (L2.CX P w) 3 T.a_need_kind T.f_need_kind ["word", "many", "most"] (liftX K cn S_need_kind)) (G_rows_for_pairs : FnG P w K mg base (L2.CX P w) 1 T.a_rows_for_pairs T.f_rows_for_pairs ["many"] (lift K S_rows_for_pairs)) : FnG P w K mg base (L2.CX P w) 4 T.a_why_many T.f_why_many ["word", "many"] (liftX K cn S_why_many) := by
  refine okGX T.d_why_many.fn sc_why_many (fun vs H Q E h => liftX_len len_why_many h) (fun cdv A outer s H vs Q E hg hr h => ⟨t_why_many K cn (fun cls d _ H => E cls d H), ?_, liftX_WsC (n := 2) (m := 0) T.xf len_why_many rfl ws_why_many h⟩)
  exact (pss_cons (ps_expr (pe_callSG G_need_kind hg (hr.mono (by decide)) (by rfl) T.d_need_kind.g T.d_need_kind.fn.kp T.d_need_kind.b (fun σ => passAt tkX σ) (pa_cons (pv 0) (pa_cons (pv 1) (pa_cons (pe_glob rfl T.c_MOST_kinds.choose_spec ⟨_, rfl⟩) pa_nil)))))
      (pss_cons (ps_if (pt_cmpR (op_eqA hr.units) (pv 0) pe_str (nomark _)) (pss_one (ps_ret (pe_callG G_rows_for_pairs hg (hr.mono (by decide)) (by rfl) T.d_rows_for_pairs.g T.d_rows_for_pairs.fn.kp T.d_rows_for_pairs.b .nil passL (pa_cons (pv 1) pa_nil)))) pss_nil)
      (pss_one (ps_ret (pv 1)))))
theorem ok_kind_rows (T : Txt K mg cn) (G_need_kind : FnG P w K mg base (L2.CX P w) 3 T.a_need_kind T.f_need_kind ["word", "many", "most"] (liftX K cn S_need_kind)) (G_row_by : FnG P w K mg base (L2.CX P w) 4 T.a_row_by T.f_row_by ["number"] (liftX K cn S_row_by)) (G_rows_for_pairs : FnG P w K mg base (L2.CX P w) 1 T.a_rows_for_pairs T.f_rows_for_pairs ["many"] (lift K S_rows_for_pairs)) : FnG P w K mg base (L2.CX P w) 5 T.a_kind_rows T.f_kind_rows ["word", "many"] (liftX K cn S_kind_rows) := by
  refine okGX T.d_kind_rows.fn sc_kind_rows (fun vs H Q E h => liftX_len len_kind_rows h) (fun cdv A outer s H vs Q E hg hr h => ⟨t_kind_rows K cn (fun cls d _ H => E cls d H), ?_, liftX_WsC (n := 2) (m := 4) T.xf len_kind_rows rfl ws_kind_rows h⟩)
  exact (pss_cons (ps_expr (pe_callSG G_need_kind hg (hr.mono (by decide)) (by rfl) T.d_need_kind.g T.d_need_kind.fn.kp T.d_need_kind.b (fun σ => passAt tkX σ) (pa_cons (pv 0) (pa_cons (pv 1) (pa_cons (pe_glob rfl T.c_MOST_kinds.choose_spec ⟨_, rfl⟩) pa_nil)))))
      (pss_cons (ps_if (pt_cmpR (op_neA hr.units) (pv 0) pe_str (nomark _)) (pss_one (ps_ret (pe_lc (own := [("number", 2)]) (g := (gName 2)) (tt := tYes) rfl sc_kind_rows.nd (pi_range1 (by rfl) T.n_range (pa_cons (pv 1) pa_nil)) (blkOk_by (own := [("number", 2)]) (N := N_kind_rows) (sc := defScope s_kind_rows) (by decide +kernel)) (fun _ _ _ _ _ => (pg_name (i := 2) sc_kind_rows.nd rfl (.inl rfl))) (fun _ _ _ _ _ => pts_nil) (fun _ _ _ _ _ => (pe_callG G_row_by hg (hr.mono (by decide)) (by rfl) T.d_row_by.g T.d_row_by.fn.kp T.d_row_by.b .nil passL (pa_cons (pv 2) pa_nil)))))) pss_nil)
      (pss_cons (ps_set (i := 3) sc_kind_rows.nd rfl (.inl rfl) (pe_lst pa_nil))
      (pss_cons (ps_for psX rfl (pi_range1 (by rfl) T.n_range (pa_cons (pe_callG G_rows_for_pairs hg (hr.mono (by decide)) (by rfl) T.d_rows_for_pairs.g T.d_rows_for_pairs.fn.kp T.d_rows_for_pairs.b .nil passL (pa_cons (pv 1) pa_nil)) pa_nil)) (pg_name (i := 4) sc_kind_rows.nd rfl (.inr rfl)) (pss_one (ps_expr (pe_bm PySem.F.plainAttrs_list PySem.F.slot_list_extend PySem.F.type_list_extend mt_extendA (pv 3) (pa_cons (pe_lc (own := [("one", 5)]) (g := (gName 5)) (tt := tYes) rfl sc_kind_rows.nd (pi_range1 (by rfl) T.n_range (pa_cons (pv 4) pa_nil)) (blkOk_by (own := [("one", 5)]) (N := N_kind_rows) (sc := defScope s_kind_rows) (by decide +kernel)) (fun _ _ _ _ _ => (pg_name (i := 5) sc_kind_rows.nd rfl (.inl rfl))) (fun _ _ _ _ _ => pts_nil) (fun _ _ _ _ _ => (pe_tup (pa_cons (pe_callG G_row_by hg (hr.mono (by decide)) (by rfl) T.d_row_by.g T.d_row_by.fn.kp T.d_row_by.b .nil passL (pa_cons (pv 5) pa_nil)) (pa_cons (pe_callG G_row_by hg (hr.mono (by decide)) (by rfl) T.d_row_by.g T.d_row_by.fn.kp T.d_row_by.b .nil passL (pa_cons (pv 4) pa_nil)) pa_nil))))) pa_nil)))))
      (pss_one (ps_ret (pe_slice sl_A (pv 3) po_none (po_some (pv 1)))))))))
theorem ok_kind_far (T : Txt K mg cn) (G_why_many : FnG P w K mg base (L2.CX P w) 4 T.a_why_many T.f_why_many ["word", "many"] (liftX K cn S_why_many)) : FnG P w K mg base (L2.CX P w) 5 T.a_kind_far T.f_kind_far ["word", "many", "one", "other"] (liftX K cn S_kind_far) := by
  refine okGX T.d_kind_far.fn sc_kind_far (fun vs H Q E h => liftX_len len_kind_far h) (fun cdv A outer s H vs Q E hg hr h => ⟨t_kind_far K cn (fun cls d _ H => E cls d H), ?_, liftX_WsC (n := 4) (m := 4) T.xf len_kind_far rfl ws_kind_far h⟩)
  exact (pss_cons (ps_set (i := 4) sc_kind_far.nd rfl (.inl rfl) (pe_callSG G_why_many hg (hr.mono (by decide)) (by rfl) T.d_why_many.g T.d_why_many.fn.kp T.d_why_many.b (fun σ => passAt tkX σ) (pa_cons (pv 0) (pa_cons (pv 1) pa_nil))))
      (pss_cons ps_never
      (pss_cons ps_never
      (pss_cons ps_never
      (pss_cons ps_never
      (pss_cons ps_never
      (pss_cons ps_never
      (pss_one ps_never))))))))
theorem ok_kind_web (T : Txt K mg cn) (G_need_kind : FnG P w K mg base (L2.CX P w) 3 T.a_need_kind T.f_need_kind ["word", "many", "most"] (liftX K cn S_need_kind)) : FnG P w K mg base (L2.CX P w) 4 T.a_kind_web T.f_kind_web ["word", "many"] (liftX K cn S_kind_web) := by
  refine okGX T.d_kind_web.fn sc_kind_web (fun vs H Q E h => liftX_len len_kind_web h) (fun cdv A outer s H vs Q E hg hr h => ⟨t_kind_web K cn (fun cls d _ H => E cls d H), ?_, liftX_WsC (n := 2) (m := 3) T.xf len_kind_web rfl ws_kind_web h⟩)
  exact (pss_cons (ps_expr (pe_callSG G_need_kind hg (hr.mono (by decide)) (by rfl) T.d_need_kind.g T.d_need_kind.fn.kp T.d_need_kind.b (fun σ => passAt tkX σ) (pa_cons (pv 0) (pa_cons (pv 1) (pa_cons (pe_glob rfl T.c_MOST_PLACES_kinds.choose_spec ⟨_, rfl⟩) pa_nil)))))
      (pss_cons ps_never
      (pss_cons ps_never
      (pss_cons ps_never
      (pss_cons ps_never
      (pss_one ps_never))))))
theorem ok_l_cell (T : Txt K mg cn) : FnG P w K mg base (L2.CX P w) 1 T.a_l_cell T.f_l_cell ["_law_script", "_law_k"] (lift K S_l_cell) := by
  refine okGX T.d_l_cell.fn sc_l_cell (fun vs H Q E h => lift_len len_l_cell h) (fun cdv A outer s H vs Q E hg hr h => ⟨t_l_cell K cn, ?_, lift_WsC (n := 2) (m := 0) T.xf len_l_cell rfl ws_l_cell h⟩)
  exact (pss_cons (ps_if (pt_cmpR op_ltA (pv 1) (pe_callB call_lenB (by rfl) T.n_len (by decide +kernel) (pa_cons (pv 0) pa_nil)) (nomark _)) (pss_one (ps_ret (pe_ix (ix_any hr.units) (pv 0) (pv 1) (fun _ _ => rfl)))) pss_nil)
      (pss_one (ps_ret (pe_op op_addA (pe_op op_mulB pe_int (pv 1)) pe_int))))
theorem ok_l_box (T : Txt K mg cn) : FnG P w K mg base (L2.CX P w) 1 T.a_l_box T.f_l_box ["_law_cell_here"] (lift K S_l_box) := by
  refine okGX T.d_l_box.fn sc_l_box (fun vs H Q E h => lift_len len_l_box h) (fun cdv A outer s H vs Q E hg hr h => ⟨t_l_box K cn, ?_, lift_WsC (n := 1) (m := 0) T.xf len_l_box rfl ws_l_box h⟩)
  exact (pss_one (ps_ret (pe_lst (pa_cons (pe_callB (call_maxA rfl) (by rfl) T.n_max (by decide +kernel) (pa_cons pe_int (pa_cons (pe_op op_subA (pv 0) (pe_op op_powA pe_int pe_int)) pa_nil))) (pa_cons (pe_op op_modA (pv 0) pe_int) (pa_cons pe_int pa_nil))))))
theorem ok_l_take (T : Txt K mg cn) : FnG P w K mg base (L2.CX P w) 1 T.a_l_take T.f_l_take ["_law_box_here", "_law_many_here"] (lift K S_l_take) := by
  refine okGX T.d_l_take.fn sc_l_take (fun vs H Q E h => lift_len len_l_take h) (fun cdv A outer s H vs Q E hg hr h => ⟨t_l_take K cn, ?_, lift_WsC (n := 2) (m := 3) T.xf len_l_take rfl ws_l_take h⟩)
  exact (pss_cons (ps_if (pt_cmpR op_gtA (pe_ix (ix_any hr.units) (pv 0) pe_int (fun _ _ => rfl)) pe_int (nomark _)) (pss_cons (ps_set (i := 2) sc_l_take.nd rfl (.inl rfl) (pe_op op_modA (pe_ix (ix_any hr.units) (pv 0) pe_int (fun _ _ => rfl)) (pv 1)))
      (pss_cons (ps_asg (pe_op op_divA (pe_ix (ix_any hr.units) (pv 0) pe_int (fun _ _ => rfl)) (pv 1)) (pg_sub (pv 0) pe_int (set_any hr.units)))
      (pss_one (ps_ret (pv 2))))) pss_nil)
      (pss_cons (ps_asg (pe_op op_addA (pe_ix (ix_any hr.units) (pv 0) pe_int (fun _ _ => rfl)) pe_int) (pg_sub (pv 0) pe_int (set_any hr.units)))
      (pss_cons (ps_set (i := 3) sc_l_take.nd rfl (.inl rfl) (pe_op op_modA (pe_op op_mulB (pe_op op_addA (pe_ix (ix_any hr.units) (pv 0) pe_int (fun _ _ => rfl)) pe_int) (pe_op op_addA (pe_op op_mulB pe_int (pe_ix (ix_any hr.units) (pv 0) pe_int (fun _ _ => rfl))) pe_int)) pe_int))
      (pss_cons (ps_set (i := 4) sc_l_take.nd rfl (.inl rfl) (pe_op op_modA (pe_op op_powA (pv 3) pe_int) pe_int))
      (pss_cons (ps_set (i := 4) sc_l_take.nd rfl (.inl rfl) (pe_op op_modA (pe_op op_mulB (pe_op op_addA (pv 4) (pe_op op_mulB pe_int (pe_ix (ix_any hr.units) (pv 0) pe_int (fun _ _ => rfl)))) (pe_op op_addA (pv 4) pe_int)) pe_int))
      (pss_one (ps_ret (pe_op op_modA (pe_op op_divA (pv 4) pe_int) (pv 1)))))))))
theorem ok_l_signs (T : Txt K mg cn) : FnG P w K mg base (L2.CX P w) 1 T.a_l_signs T.f_l_signs ["_law_number"] (lift K S_l_signs) := by
  refine okGX T.d_l_signs.fn sc_l_signs (fun vs H Q E h => lift_len len_l_signs h) (fun cdv A outer s H vs Q E hg hr h => ⟨t_l_signs K cn, ?_, lift_WsC (n := 1) (m := 1) T.xf len_l_signs rfl ws_l_signs h⟩)
  exact (pss_cons (ps_set (i := 1) sc_l_signs.nd rfl (.inl rfl) pe_str)
      (pss_cons (ps_while psX (pt_cmpR op_gtA (pv 0) pe_int (nomark _)) (pss_cons (ps_set (i := 1) sc_l_signs.nd rfl (.inl rfl) (pe_op op_addA (pe_ix (ix_any hr.units) pe_str (pe_op op_modA (pe_op op_subA (pv 0) pe_int) pe_int) (fun _ _ => rfl)) (pv 1)))
      (pss_one (ps_set (i := 0) sc_l_signs.nd rfl (.inl rfl) (pe_op op_divA (pe_op op_subA (pv 0) pe_int) pe_int)))))
      (pss_one (ps_ret (pv 1)))))
theorem ok_l_longest (T : Txt K mg cn) : FnG P w K mg base (L2.CX P w) 1 T.a_l_longest T.f_l_longest ["_law_many_here"] (lift K S_l_longest) := by
  refine okGX T.d_l_longest.fn sc_l_longest (fun vs H Q E h => lift_len len_l_longest h) (fun cdv A outer s H vs Q E hg hr h => ⟨t_l_longest K cn, ?_, lift_WsC (n := 1) (m := 2) T.xf len_l_longest rfl ws_l_longest h⟩)
  exact (pss_cons (ps_set (i := 1) sc_l_longest.nd rfl (.inl rfl) pe_int)
      (pss_cons (ps_set (i := 2) sc_l_longest.nd rfl (.inl rfl) pe_int)
      (pss_cons (ps_while psX (pt_cmpR op_ltA (pv 2) (pv 0) (nomark _)) (pss_cons (ps_set (i := 1) sc_l_longest.nd rfl (.inl rfl) (pe_op op_addA (pv 1) pe_int))
      (pss_one (ps_set (i := 2) sc_l_longest.nd rfl (.inl rfl) (pe_op op_addA (pe_op op_mulB pe_int (pv 2)) pe_int)))))
      (pss_one (ps_ret (pv 1))))))
theorem ok_l_pairs (T : Txt K mg cn) : FnG P w K mg base (L2.CX P w) 1 T.a_l_pairs T.f_l_pairs ["_law_many_here"] (lift K S_l_pairs) := by
  refine okGX T.d_l_pairs.fn sc_l_pairs (fun vs H Q E h => lift_len len_l_pairs h) (fun cdv A outer s H vs Q E hg hr h => ⟨t_l_pairs K cn, ?_, lift_WsC (n := 1) (m := 3) T.xf len_l_pairs rfl ws_l_pairs h⟩)
  exact (pss_cons (ps_set (i := 1) sc_l_pairs.nd rfl (.inl rfl) (pe_lst pa_nil))
      (pss_cons (ps_set (i := 2) sc_l_pairs.nd rfl (.inr rfl) pe_int)
      (pss_cons (ps_while psX (pt_cmpR op_ltA (pe_callB call_lenB (by rfl) T.n_len (by decide +kernel) (pa_cons (pv 1) pa_nil)) (pv 0) (nomark _)) (pss_cons (ps_expr (pe_bm PySem.F.plainAttrs_list PySem.F.slot_list_extend PySem.F.type_list_extend mt_extendA (pv 1) (pa_cons (pe_lc (own := [("_law_low", 3)]) (g := (gName 3)) (tt := tYes) rfl sc_l_pairs.nd (pi_range1 (by rfl) T.n_range (pa_cons (pv 2) pa_nil)) (blkOk_by (own := [("_law_low", 3)]) (N := N_l_pairs) (sc := defScope s_l_pairs) (by decide +kernel)) (fun _ _ _ _ _ => (pg_name (i := 3) sc_l_pairs.nd rfl (.inl rfl))) (fun _ _ _ _ _ => pts_nil) (fun _ _ _ _ _ => (pe_tup (pa_cons (pv 3) (pa_cons (pv 2) pa_nil))))) pa_nil)))
      (pss_one (ps_set (i := 2) sc_l_pairs.nd rfl (.inr rfl) (pe_op op_addA (pv 2) pe_int)))))
      (pss_one (ps_ret (pe_slice sl_A (pv 1) po_none (po_some (pv 0))))))))
theorem ok_l_many (T : Txt K mg cn) (G_l_take : FnG P w K mg base (L2.CX P w) 1 T.a_l_take T.f_l_take ["_law_box_here", "_law_many_here"] (lift K S_l_take)) : FnG P w K mg base (L2.CX P w) 2 T.a_l_many T.f_l_many ["_law_box_here", "_law_word"] (lift K S_l_many) := by
  refine okGX T.d_l_many.fn sc_l_many (fun vs H Q E h => lift_len len_l_many h) (fun cdv A outer s H vs Q E hg hr h => ⟨t_l_many K cn, ?_, lift_WsC (n := 2) (m := 2) T.xf len_l_many rfl ws_l_many h⟩)
  exact (pss_cons (ps_set (i := 2) sc_l_many.nd rfl (.inl rfl) (pe_ifExp (pt_cmpR (op_eqA hr.units) (pv 1) pe_str (nomark _)) pe_int pe_int))
      (pss_cons (ps_set (i := 3) sc_l_many.nd rfl (.inl rfl) (pe_callG G_l_take hg (hr.mono (by decide)) (by rfl) T.d_l_take.g T.d_l_take.fn.kp T.d_l_take.b .nil passL (pa_cons (pv 0) (pa_cons pe_int pa_nil))))
      (pss_cons (ps_if (pt_cmpR (op_eqA hr.units) (pv 3) pe_int (nomark _)) (pss_one (ps_ret (pe_op op_addA (pv 2) (pe_callG G_l_take hg (hr.mono (by decide)) (by rfl) T.d_l_take.g T.d_l_take.fn.kp T.d_l_take.b .nil passL (pa_cons (pv 0) (pa_cons pe_int pa_nil)))))) pss_nil)
      (pss_cons (ps_if (pt_cmpR (op_eqA hr.units) (pv 3) pe_int (nomark _)) (pss_one (ps_ret (pe_op op_subA pe_int (pe_callG G_l_take hg (hr.mono (by decide)) (by rfl) T.d_l_take.g T.d_l_take.fn.kp T.d_l_take.b .nil passL (pa_cons (pv 0) (pa_cons pe_int pa_nil)))))) pss_nil)
      (pss_cons (ps_if (pt_cmpR (op_eqA hr.units) (pv 3) pe_int (nomark _)) (pss_one (ps_ret (pe_ix (ix_any hr.units) (pe_lst (pa_cons pe_int (pa_cons pe_int (pa_cons pe_int (pa_cons pe_int (pa_cons pe_int (pa_cons pe_int (pa_cons pe_int (pa_cons pe_int (pa_cons pe_int (pa_cons pe_int pa_nil))))))))))) (pe_callG G_l_take hg (hr.mono (by decide)) (by rfl) T.d_l_take.g T.d_l_take.fn.kp T.d_l_take.b .nil passL (pa_cons (pv 0) (pa_cons pe_int pa_nil))) (fun _ _ => rfl)))) pss_nil)
      (pss_one (ps_ret (pe_op op_addA (pv 2) (pe_callG G_l_take hg (hr.mono (by decide)) (by rfl) T.d_l_take.g T.d_l_take.fn.kp T.d_l_take.b .nil passL (pa_cons (pv 0) (pa_cons (pe_ix (ix_any hr.units) (pe_lst (pa_cons pe_int (pa_cons pe_int pa_nil))) (pe_op op_subA (pv 3) pe_int) (fun _ _ => rfl)) pa_nil)))))))))))
theorem ok_l_call (T : Txt K mg cn) (G_kind_far : FnG P w K mg base (L2.CX P w) 5 T.a_kind_far T.f_kind_far ["word", "many", "one", "other"] (liftX K cn S_kind_far)) (G_kind_rows : FnG P w K mg base (L2.CX P w) 5 T.a_kind_rows T.f_kind_rows ["word", "many"] (liftX K cn S_kind_rows)) (G_kind_web : FnG P w K mg base (L2.CX P w) 4 T.a_kind_web T.f_kind_web ["word", "many"] (liftX K cn S_kind_web)) (G_why_many : FnG P w K mg base (L2.CX P w) 4 T.a_why_many T.f_why_many ["word", "many"] (liftX K cn S_why_many)) : FnG P w K mg base (L2.CX P w) 6 T.a_l_call T.f_l_call ["_law_way", "_law_word", "_law_many_here"] (liftX K cn S_l_call) := by
  refine okGX T.d_l_call.fn sc_l_call (fun vs H Q E h => liftX_len len_l_call h) (fun cdv A outer s H vs Q E hg hr h => ⟨t_l_call K cn (fun cls d _ H => E cls d H), ?_, liftX_WsC (n := 3) (m := 0) T.xf len_l_call rfl ws_l_call h⟩)
  exact (pss_cons (ps_if (pt_cmpR (op_eqA hr.units) (pv 0) pe_int (nomark _)) (pss_one (ps_ret (pe_callSG G_kind_rows hg (hr.mono (by decide)) (by rfl) T.d_kind_rows.g T.d_kind_rows.fn.kp T.d_kind_rows.b (fun σ => passAt tkX σ) (pa_cons (pv 1) (pa_cons (pv 2) pa_nil))))) pss_nil)
      (pss_cons (ps_if (pt_cmpR (op_eqA hr.units) (pv 0) pe_int (nomark _)) (pss_one (ps_ret (pe_callSG G_kind_web hg (hr.mono (by decide)) (by rfl) T.d_kind_web.g T.d_kind_web.fn.kp T.d_kind_web.b (fun σ => passAt tkX σ) (pa_cons (pv 1) (pa_cons (pv 2) pa_nil))))) pss_nil)
      (pss_cons (ps_if (pt_cmpR (op_eqA hr.units) (pv 0) pe_int (nomark _)) (pss_one (ps_ret (pe_callSG G_kind_far hg (hr.mono (by decide)) (by rfl) T.d_kind_far.g T.d_kind_far.fn.kp T.d_kind_far.b (fun σ => passAt tkX σ) (pa_cons (pv 1) (pa_cons (pv 2) (pa_cons pe_non (pa_cons pe_str pa_nil))))))) pss_nil)
      (pss_one (ps_ret (pe_callSG G_why_many hg (hr.mono (by decide)) (by rfl) T.d_why_many.g T.d_why_many.fn.kp T.d_why_many.b (fun σ => passAt tkX σ) (pa_cons (pv 1) (pa_cons (pv 2) pa_nil))))))))
theorem ok_l_refused (T : Txt K mg cn) (G_l_call : FnG P w K mg base (L2.CX P w) 6 T.a_l_call T.f_l_call ["_law_way", "_law_word", "_law_many_here"] (liftX K cn S_l_call)) : FnG P w K mg base (L2.CX P w) 7 T.a_l_refused T.f_l_refused ["_law_way", "_law_word", "_law_many_here"] (lift K S_l_refused) := by
  refine okGX T.d_l_refused.fn sc_l_refused (fun vs H Q E h => lift_len len_l_refused h) (fun cdv A outer s H vs Q E hg hr h => ⟨t_l_refused K cn, ?_, lift_WsC (n := 3) (m := 2) T.xf len_l_refused rfl ws_l_refused h⟩)
  exact (pss_cons (ps_set (i := 3) sc_l_refused.nd rfl (.inl rfl) pe_non)
      (pss_cons (ps_tryMix (l := [(.ref (cn.ad XNoKind), some 4, fun a cls d => (tAsg (tTup (tCons (tC (.str "kind")) (tCons (tXfX K a cls d "found" (tVar 4)) tNil))) (gName 3))), (.ref (cn.ad XNoNumber), some 4, fun a cls d => (tAsg (tTup (tCons (tC (.str "number")) (tCons (tXfX K a cls d "found" (tVar 4)) tNil))) (gName 3)))]) (tb := fun W => (tAsg (tTup (tCons (tC (.str "told")) (tCons (tCallS (liftX K cn S_l_call) (L2.WE W) (tCons (tVar 0) (tCons (tVar 1) (tCons (tVar 2) tNil)))) tNil))) (gName 3))) rfl rfl takes0
      (fun W pn xe tk hps => (pss_one (ps_set (i := 3) sc_l_refused.nd rfl (.inl rfl) (pe_tup (pa_cons pe_str (pa_cons (pe_callSG G_l_call hg (hr.mono (by decide)) (by rfl) T.d_l_call.g T.d_l_call.fn.kp T.d_l_call.b (fun σ => passAt tk σ) (pa_cons (pv 0) (pa_cons (pv 1) (pa_cons (pv 2) pa_nil)))) pa_nil))))))
      (.named (c := .ref (cn.ad XNoKind)) (i := 4) ⟨by rfl, by decide, .inl T.x_NoKind.g⟩ sc_l_refused.nd rfl rfl (fun a oe cls d pn hz hf => (pss_one (ps_set (i := 3) sc_l_refused.nd rfl (.inl rfl) (pe_tup (pa_cons pe_str (pa_cons (pe_xfX hz hf (pv 4)) pa_nil)))))) (.named (c := .ref (cn.ad XNoNumber)) (i := 4) ⟨by rfl, by decide, .inl T.x_NoNumber.g⟩ sc_l_refused.nd rfl rfl (fun a oe cls d pn hz hf => (pss_one (ps_set (i := 3) sc_l_refused.nd rfl (.inl rfl) (pe_tup (pa_cons pe_str (pa_cons (pe_xfX hz hf (pv 4)) pa_nil)))))) .nil)))
      (pss_one (ps_ret (pe_callB (call_reprA hg hr.units) (by rfl) T.n_repr (by decide +kernel) (pa_cons (pv 3) pa_nil))))))
theorem ok_l_rows_right (T : Txt K mg cn) (G_l_longest : FnG P w K mg base (L2.CX P w) 1 T.a_l_longest T.f_l_longest ["_law_many_here"] (lift K S_l_longest)) (G_l_pairs : FnG P w K mg base (L2.CX P w) 1 T.a_l_pairs T.f_l_pairs ["_law_many_here"] (lift K S_l_pairs)) (G_l_signs : FnG P w K mg base (L2.CX P w) 1 T.a_l_signs T.f_l_signs ["_law_number"] (lift K S_l_signs)) (G_kind_rows : FnG P w K mg base (L2.CX P w) 5 T.a_kind_rows T.f_kind_rows ["word", "many"] (liftX K cn S_kind_rows)) (G_least_signs : FnG P w K mg base (L2.CX P w) 4 T.a_least_signs T.f_least_signs ["many"] (liftX K cn S_least_signs)) (G_why_many : FnG P w K mg base (L2.CX P w) 4 T.a_why_many T.f_why_many ["word", "many"] (liftX K cn S_why_many)) : FnG P w K mg base (L2.CX P w) 6 T.a_l_rows_right T.f_l_rows_right ["_law_word", "_law_many_here"] (lift K S_l_rows_right) := by
  refine okGX T.d_l_rows_right.fn sc_l_rows_right (fun vs H Q E h => lift_len len_l_rows_right h) (fun cdv A outer s H vs Q E hg hr h => ⟨t_l_rows_right K cn, ?_, lift_WsC (n := 2) (m := 9) T.xf len_l_rows_right rfl ws_l_rows_right h⟩)
  exact (pss_cons (ps_setLc (i := 2) (own := [("_law_number", 3)]) (g := (gName 3)) (tt := tYes) rfl sc_l_rows_right.nd rfl rfl (sw_true rfl rfl rfl (by decide +kernel)) (pi_range1 (by rfl) T.n_range (pa_cons (pv 1) pa_nil)) (blkOk_by (own := [("_law_number", 3)]) (N := N_l_rows_right) (sc := defScope s_l_rows_right) (by decide +kernel)) (fun _ _ _ _ _ => (pg_name (i := 3) sc_l_rows_right.nd rfl (.inl rfl))) (fun _ _ _ _ _ => pts_nil) (fun _ _ _ _ _ => (pe_callG G_l_signs hg (hr.mono (by decide)) (by rfl) T.d_l_signs.g T.d_l_signs.fn.kp T.d_l_signs.b .nil passL (pa_cons (pv 3) pa_nil))))
      (pss_cons (ps_set (i := 4) sc_l_rows_right.nd rfl (.inl rfl) (pv 1))
      (pss_cons (ps_if (pt_cmpR (op_eqA hr.units) (pv 0) pe_str (nomark _)) (pss_cons (ps_set (i := 5) sc_l_rows_right.nd rfl (.inl rfl) (pe_callG G_l_pairs hg (hr.mono (by decide)) (by rfl) T.d_l_pairs.g T.d_l_pairs.fn.kp T.d_l_pairs.b .nil passL (pa_cons (pv 1) pa_nil)))
      (pss_cons (ps_set (i := 4) sc_l_rows_right.nd rfl (.inl rfl) (pe_op op_addA (pe_ix (ix_any hr.units) (pe_ix (ix_any hr.units) (pv 5) (pe_un un_negA pe_int) (fun _ _ => rfl)) pe_int (fun _ _ => rfl)) pe_int))
      (pss_one (ps_setLc (i := 2) (own := [("_law_low", 6), ("_law_high", 7)]) (g := (gSeq K 2 (gCons (gName 6) (gCons (gName 7) gNil)))) (tt := tYes) rfl sc_l_rows_right.nd rfl rfl (sw_true rfl rfl rfl (by decide +kernel)) (pi_any (pv 5)) (blkOk_by (own := [("_law_low", 6), ("_law_high", 7)]) (N := N_l_rows_right) (sc := defScope s_l_rows_right) (by decide +kernel)) (fun _ _ _ _ _ => (pg_seq rfl (pgs_cons (pg_name (i := 6) sc_l_rows_right.nd rfl (.inl rfl)) (pgs_cons (pg_name (i := 7) sc_l_rows_right.nd rfl (.inl rfl)) pgs_nil)))) (fun _ _ _ _ _ => pts_nil) (fun _ _ _ _ _ => (pe_tup (pa_cons (pe_callG G_l_signs hg (hr.mono (by decide)) (by rfl) T.d_l_signs.g T.d_l_signs.fn.kp T.d_l_signs.b .nil passL (pa_cons (pv 6) pa_nil)) (pa_cons (pe_callG G_l_signs hg (hr.mono (by decide)) (by rfl) T.d_l_signs.g T.d_l_signs.fn.kp T.d_l_signs.b .nil passL (pa_cons (pv 7) pa_nil)) pa_nil)))))))) pss_nil)
      (pss_cons (ps_for psX rfl (pi_range1 (by rfl) T.n_range (pa_cons pe_int pa_nil)) (pg_name (i := 8) sc_l_rows_right.nd rfl (.inl rfl)) (pss_cons (ps_set (i := 9) sc_l_rows_right.nd rfl (.inl rfl) (pe_callG G_kind_rows hg (hr.mono (by decide)) (by rfl) T.d_kind_rows.g T.d_kind_rows.fn.kp T.d_kind_rows.b .nil passL (pa_cons (pv 0) (pa_cons (pv 1) pa_nil))))
      (pss_cons (ps_if (PW.pt (pw_or (pt_not (pt_tru (pe_callB call_isiB (by rfl) T.n_isinstance (by decide +kernel) (pa_cons (pv 9) (pa_cons (pe_bltn (v := .ty "list") (u := .type "list") (by rfl) T.n_list (by decide +kernel) rfl) pa_nil))) (fun _ => rfl))) (pw_or1 (pt_cmpR (op_neA hr.units) (pv 9) (pv 2) (nomark _))))) (pss_one (ps_ret pe_bl)) pss_nil)
      (pss_one (ps_expr (pe_bm0 PySem.F.plainAttrs_list PySem.F.slot_list_clear PySem.F.type_list_clear mt_clearA (pv 9)))))))
      (pss_cons (ps_if (PW.pt (pw_or (pt_cmpR (op_neA hr.units) (pe_callB (call_reprA hg hr.units) (by rfl) T.n_repr (by decide +kernel) (pa_cons (pe_callG G_why_many hg (hr.mono (by decide)) (by rfl) T.d_why_many.g T.d_why_many.fn.kp T.d_why_many.b .nil passL (pa_cons (pv 0) (pa_cons (pv 1) pa_nil))) pa_nil)) (pe_callB (call_reprA hg hr.units) (by rfl) T.n_repr (by decide +kernel) (pa_cons (pv 4) pa_nil)) (nomark _)) (pw_or1 (PW.pt (pw_and (pt_cmpR (op_eqA hr.units) (pv 0) pe_str (nomark _)) (pw_and1 (pt_cmpR op_geA (pe_op op_divA (pe_op op_mulB (pe_op op_subA (pv 4) pe_int) (pe_op op_subA (pv 4) pe_int)) pe_int) (pv 1) (nomark _)))))))) (pss_one (ps_ret pe_bl)) pss_nil)
      (pss_cons (ps_set (i := 10) sc_l_rows_right.nd rfl (.inl rfl) (pe_callB call_lenB (by rfl) T.n_len (by decide +kernel) (pa_cons (pe_callG G_l_signs hg (hr.mono (by decide)) (by rfl) T.d_l_signs.g T.d_l_signs.fn.kp T.d_l_signs.b .nil passL (pa_cons (pe_op op_subA (pv 4) pe_int) pa_nil)) pa_nil)))
      (pss_one (ps_ret (pe_and (pe_cmpR (op_eqA hr.units) (pv 10) (pe_callG G_l_longest hg (hr.mono (by decide)) (by rfl) T.d_l_longest.g T.d_l_longest.fn.kp T.d_l_longest.b .nil passL (pa_cons (pv 4) pa_nil)) (nomark _)) (pe_one (pe_cmpR (op_eqA hr.units) (pe_callB (call_reprA hg hr.units) (by rfl) T.n_repr (by decide +kernel) (pa_cons (pe_callG G_least_signs hg (hr.mono (by decide)) (by rfl) T.d_least_signs.g T.d_least_signs.fn.kp T.d_least_signs.b .nil passL (pa_cons (pe_callG G_why_many hg (hr.mono (by decide)) (by rfl) T.d_why_many.g T.d_why_many.fn.kp T.d_why_many.b .nil passL (pa_cons (pv 0) (pa_cons (pv 1) pa_nil))) pa_nil)) pa_nil)) (pe_callB (call_reprA hg hr.units) (by rfl) T.n_repr (by decide +kernel) (pa_cons (pv 10) pa_nil)) (nomark _))))))))))))
theorem ok_l_refusals_right (T : Txt K mg cn) (G_l_refused : FnG P w K mg base (L2.CX P w) 7 T.a_l_refused T.f_l_refused ["_law_way", "_law_word", "_law_many_here"] (lift K S_l_refused)) (G_l_take : FnG P w K mg base (L2.CX P w) 1 T.a_l_take T.f_l_take ["_law_box_here", "_law_many_here"] (lift K S_l_take)) : FnG P w K mg base (L2.CX P w) 8 T.a_l_refusals_right T.f_l_refusals_right ["_law_box_here", "_law_word", "_law_many_here"] (lift K S_l_refusals_right) := by
  refine okGX T.d_l_refusals_right.fn sc_l_refusals_right (fun vs H Q E h => lift_len len_l_refusals_right h) (fun cdv A outer s H vs Q E hg hr h => ⟨t_l_refusals_right K cn, ?_, lift_WsC (n := 3) (m := 9) T.xf len_l_refusals_right rfl ws_l_refusals_right h⟩)
  exact (pss_cons (ps_set (i := 3) sc_l_refusals_right.nd rfl (.inl rfl) (pe_ix (ix_any hr.units) pe_str (pe_callG G_l_take hg (hr.mono (by decide)) (by rfl) T.d_l_take.g T.d_l_take.fn.kp T.d_l_take.b .nil passL (pa_cons (pv 0) (pa_cons pe_int pa_nil))) (fun _ _ => rfl)))
      (pss_cons (ps_set (i := 4) sc_l_refusals_right.nd rfl (.inl rfl) (pe_callG G_l_take hg (hr.mono (by decide)) (by rfl) T.d_l_take.g T.d_l_take.fn.kp T.d_l_take.b .nil passL (pa_cons (pv 0) (pa_cons pe_int pa_nil))))
      (pss_cons (ps_set (i := 5) sc_l_refusals_right.nd rfl (.inl rfl) (pe_lst (pa_cons (pe_op op_addA (pv 1) (pv 3)) (pa_cons (pe_op op_addA (pe_slice sl_A (pv 1) po_none (po_some (pv 4))) (pe_slice sl_A (pv 1) (po_some (pe_op op_addA (pv 4) pe_int)) po_none)) (pa_cons (pe_op op_addA (pe_op op_addA (pe_slice sl_A (pv 1) po_none (po_some (pv 4))) (pv 3)) (pe_slice sl_A (pv 1) (po_some (pe_op op_addA (pv 4) pe_int)) po_none)) (pa_cons (pe_bm0 PySem.F.plainAttrs_str PySem.F.slot_str_upper PySem.F.type_str_upper mt_upperA (pv 1)) (pa_cons pe_str (pa_cons pe_non pa_nil))))))))
      (pss_cons (ps_set (i := 5) sc_l_refusals_right.nd rfl (.inl rfl) (pe_op op_addA (pv 5) (pe_lst (pa_cons (pe_lst (pa_cons (pv 1) pa_nil)) (pa_cons (pe_tup (pa_cons (pv 1) pa_nil)) (pa_cons pe_bl (pa_cons pe_int (pa_cons pe_dnewK (pa_cons (pe_op op_addA (pv 1) pe_str) pa_nil)))))))))
      (pss_cons (ps_setLc (i := 6) (own := [("_law_thing", 7)]) (g := (gName 7)) (tt := (tTest (tOp (rNotInXT K) (tVar 7) (tTup (tCons (tC (.str "path")) (tCons (tC (.str "star")) (tCons (tC (.str "ring")) (tCons (tC (.str "pair")) tNil)))))))) rfl sc_l_refusals_right.nd rfl rfl (sw_true rfl rfl rfl (by decide +kernel)) (pi_any (pv 5)) (blkOk_by (own := [("_law_thing", 7)]) (N := N_l_refusals_right) (sc := defScope s_l_refusals_right) (by decide +kernel)) (fun _ _ _ _ _ => (pg_name (i := 7) sc_l_refusals_right.nd rfl (.inl rfl))) (fun _ _ _ _ _ => (pts_one (pt_cmpR (op_notInXT hr.units) (pv 7) (pe_tup (pa_cons pe_str (pa_cons pe_str (pa_cons pe_str (pa_cons pe_str pa_nil))))) (by rfl)))) (fun _ _ _ _ _ => (pv 7)))
      (pss_cons (ps_set (i := 8) sc_l_refusals_right.nd rfl (.inl rfl) (pe_ix (ix_any hr.units) (pv 6) (pe_callG G_l_take hg (hr.mono (by decide)) (by rfl) T.d_l_take.g T.d_l_take.fn.kp T.d_l_take.b .nil passL (pa_cons (pv 0) (pa_cons (pe_callB call_lenB (by rfl) T.n_len (by decide +kernel) (pa_cons (pv 6) pa_nil)) pa_nil))) (fun _ _ => rfl)))
      (pss_cons (ps_set (i := 9) sc_l_refusals_right.nd rfl (.inl rfl) (pe_ix (ix_any hr.units) (pe_lst (pa_cons pe_int (pa_cons pe_int pa_nil))) (pe_callTy call_intA (by rfl) T.n_int (by decide +kernel) (pa_cons (pe_cmpR (op_eqA hr.units) (pv 1) pe_str (nomark _)) pa_nil)) (fun _ _ => rfl)))
      (pss_cons (ps_set (i := 10) sc_l_refusals_right.nd rfl (.inl rfl) (pe_ix (ix_any hr.units) (pe_lst (pa_cons (pv 9) (pa_cons pe_int (pa_cons (pe_un un_negA pe_int) (pa_cons pe_bl (pa_cons pe_non (pa_cons pe_str (pa_cons (pe_lst (pa_cons pe_int pa_nil)) (pa_cons (pe_op op_powA pe_int pe_int) (pa_cons pe_bl pa_nil)))))))))) (pe_callG G_l_take hg (hr.mono (by decide)) (by rfl) T.d_l_take.g T.d_l_take.fn.kp T.d_l_take.b .nil passL (pa_cons (pv 0) (pa_cons pe_int pa_nil))) (fun _ _ => rfl)))
      (pss_cons (ps_for psX rfl (pi_range1 (by rfl) T.n_range (pa_cons pe_int pa_nil)) (pg_name (i := 11) sc_l_refusals_right.nd rfl (.inl rfl)) (pss_cons (ps_if (PW.pt (pw_or (pt_cmpR (op_neA hr.units) (pe_callG G_l_refused hg (hr.mono (by decide)) (by rfl) T.d_l_refused.g T.d_l_refused.fn.kp T.d_l_refused.b .nil passL (pa_cons (pv 11) (pa_cons (pv 8) (pa_cons (pv 10) pa_nil)))) (pe_callB (call_reprA hg hr.units) (by rfl) T.n_repr (by decide +kernel) (pa_cons (pe_tup (pa_cons pe_str (pa_cons (pv 8) pa_nil))) pa_nil)) (nomark _)) (pw_or1 (pt_cmpR (op_neA hr.units) (pe_callG G_l_refused hg (hr.mono (by decide)) (by rfl) T.d_l_refused.g T.d_l_refused.fn.kp T.d_l_refused.b .nil passL (pa_cons (pv 11) (pa_cons (pv 8) (pa_cons (pv 2) pa_nil)))) (pe_callB (call_reprA hg hr.units) (by rfl) T.n_repr (by decide +kernel) (pa_cons (pe_tup (pa_cons pe_str (pa_cons (pv 8) pa_nil))) pa_nil)) (nomark _))))) (pss_one (ps_ret pe_bl)) pss_nil)
      (pss_one (ps_if (pt_cmpR (op_neA hr.units) (pe_callG G_l_refused hg (hr.mono (by decide)) (by rfl) T.d_l_refused.g T.d_l_refused.fn.kp T.d_l_refused.b .nil passL (pa_cons (pv 11) (pa_cons (pv 1) (pa_cons (pv 10) pa_nil)))) (pe_callB (call_reprA hg hr.units) (by rfl) T.n_repr (by decide +kernel) (pa_cons (pe_tup (pa_cons pe_str (pa_cons (pv 10) pa_nil))) pa_nil)) (nomark _)) (pss_one (ps_ret pe_bl)) pss_nil))))
      (pss_one (ps_ret pe_bl)))))))))))
theorem ok_law (T : Txt K mg cn) (G_l_box : FnG P w K mg base (L2.CX P w) 1 T.a_l_box T.f_l_box ["_law_cell_here"] (lift K S_l_box)) (G_l_cell : FnG P w K mg base (L2.CX P w) 1 T.a_l_cell T.f_l_cell ["_law_script", "_law_k"] (lift K S_l_cell)) (G_l_many : FnG P w K mg base (L2.CX P w) 2 T.a_l_many T.f_l_many ["_law_box_here", "_law_word"] (lift K S_l_many)) (G_l_refusals_right : FnG P w K mg base (L2.CX P w) 8 T.a_l_refusals_right T.f_l_refusals_right ["_law_box_here", "_law_word", "_law_many_here"] (lift K S_l_refusals_right)) (G_l_rows_right : FnG P w K mg base (L2.CX P w) 6 T.a_l_rows_right T.f_l_rows_right ["_law_word", "_law_many_here"] (lift K S_l_rows_right)) (G_l_take : FnG P w K mg base (L2.CX P w) 1 T.a_l_take T.f_l_take ["_law_box_here", "_law_many_here"] (lift K S_l_take)) : FnG P w K mg base (L2.CX P w) 9 T.a_law T.f_law ["_law_script"] (lift K S_law) := by
  refine okGX T.d_law.fn sc_law (fun vs H Q E h => lift_len len_law h) (fun cdv A outer s H vs Q E hg hr h => ⟨t_law K cn, ?_, lift_WsC (n := 1) (m := 4) T.xf len_law rfl ws_law h⟩)
  exact (pss_cons (ps_for psX rfl (pi_range1 (by rfl) T.n_range (pa_cons (pe_callB (call_maxA rfl) (by rfl) T.n_max (by decide +kernel) (pa_cons pe_int (pa_cons (pe_callB (call_minA rfl) (by rfl) T.n_min (by decide +kernel) (pa_cons pe_int (pa_cons (pe_callB call_lenB (by rfl) T.n_len (by decide +kernel) (pa_cons (pv 0) pa_nil)) pa_nil))) pa_nil))) pa_nil)) (pg_name (i := 1) sc_law.nd rfl (.inl rfl)) (pss_cons (ps_set (i := 2) sc_law.nd rfl (.inl rfl) (pe_callG G_l_box hg (hr.mono (by decide)) (by rfl) T.d_l_box.g T.d_l_box.fn.kp T.d_l_box.b .nil passL (pa_cons (pe_callG G_l_cell hg (hr.mono (by decide)) (by rfl) T.d_l_cell.g T.d_l_cell.fn.kp T.d_l_cell.b .nil passL (pa_cons (pv 0) (pa_cons (pv 1) pa_nil))) pa_nil)))
      (pss_cons (ps_set (i := 3) sc_law.nd rfl (.inl rfl) (pe_ix (ix_any hr.units) (pe_lst (pa_cons pe_str (pa_cons pe_str (pa_cons pe_str (pa_cons pe_str pa_nil))))) (pe_callG G_l_take hg (hr.mono (by decide)) (by rfl) T.d_l_take.g T.d_l_take.fn.kp T.d_l_take.b .nil passL (pa_cons (pv 2) (pa_cons pe_int pa_nil))) (fun _ _ => rfl)))
      (pss_cons (ps_set (i := 4) sc_law.nd rfl (.inl rfl) (pe_callG G_l_many hg (hr.mono (by decide)) (by rfl) T.d_l_many.g T.d_l_many.fn.kp T.d_l_many.b .nil passL (pa_cons (pv 2) (pa_cons (pv 3) pa_nil))))
      (pss_one (ps_if (PW.pt (pw_or (pt_not (pt_tru (pe_callG G_l_refusals_right hg (hr.mono (by decide)) (by rfl) T.d_l_refusals_right.g T.d_l_refusals_right.fn.kp T.d_l_refusals_right.b .nil passL (pa_cons (pv 2) (pa_cons (pv 3) (pa_cons (pv 4) pa_nil)))) (fun _ => rfl))) (pw_or1 (pt_not (pt_tru (pe_callG G_l_rows_right hg (hr.mono (by decide)) (by rfl) T.d_l_rows_right.g T.d_l_rows_right.fn.kp T.d_l_rows_right.b .nil passL (pa_cons (pv 3) (pa_cons (pv 4) pa_nil))) (fun _ => rfl)))))) (pss_one (ps_ret pe_bl)) pss_nil))))))
      (pss_one (ps_ret pe_bl)))
theorem ok_all (T : Txt K mg cn) : FnG P w K mg base (L2.CX P w) 9 T.a_law T.f_law ["_law_script"] (lift K S_law) := by
  have G_is_whole : FnG P w K mg base (L2.CX P w) 1 T.a_is_whole T.f_is_whole ["thing", "low", "high"] (lift K S_is_whole) := ok_is_whole T
  have G_need_number : FnG P w K mg base (L2.CX P w) 3 T.a_need_number T.f_need_number ["thing", "low"] (liftX K cn S_need_number) := ok_need_number T G_is_whole
  have G_row_by : FnG P w K mg base (L2.CX P w) 4 T.a_row_by T.f_row_by ["number"] (liftX K cn S_row_by) := ok_row_by T G_need_number
  have G_least_signs : FnG P w K mg base (L2.CX P w) 4 T.a_least_signs T.f_least_signs ["many"] (liftX K cn S_least_signs) := ok_least_signs T G_need_number
  have G_need_kind : FnG P w K mg base (L2.CX P w) 3 T.a_need_kind T.f_need_kind ["word", "many", "most"] (liftX K cn S_need_kind) := ok_need_kind T G_is_whole
  have G_rows_for_pairs : FnG P w K mg base (L2.CX P w) 1 T.a_rows_for_pairs T.f_rows_for_pairs ["many"] (lift K S_rows_for_pairs) := ok_rows_for_pairs T
  have G_why_many : FnG P w K mg base (L2.CX P w) 4 T.a_why_many T.f_why_many ["word", "many"] (liftX K cn S_why_many) := ok_why_many T G_need_kind G_rows_for_pairs
  have G_kind_rows : FnG P w K mg base (L2.CX P w) 5 T.a_kind_rows T.f_kind_rows ["word", "many"] (liftX K cn S_kind_rows) := ok_kind_rows T G_need_kind G_row_by G_rows_for_pairs
  have G_kind_far : FnG P w K mg base (L2.CX P w) 5 T.a_kind_far T.f_kind_far ["word", "many", "one", "other"] (liftX K cn S_kind_far) := ok_kind_far T G_why_many
  have G_kind_web : FnG P w K mg base (L2.CX P w) 4 T.a_kind_web T.f_kind_web ["word", "many"] (liftX K cn S_kind_web) := ok_kind_web T G_need_kind
  have G_l_cell : FnG P w K mg base (L2.CX P w) 1 T.a_l_cell T.f_l_cell ["_law_script", "_law_k"] (lift K S_l_cell) := ok_l_cell T
  have G_l_box : FnG P w K mg base (L2.CX P w) 1 T.a_l_box T.f_l_box ["_law_cell_here"] (lift K S_l_box) := ok_l_box T
  have G_l_take : FnG P w K mg base (L2.CX P w) 1 T.a_l_take T.f_l_take ["_law_box_here", "_law_many_here"] (lift K S_l_take) := ok_l_take T
  have G_l_signs : FnG P w K mg base (L2.CX P w) 1 T.a_l_signs T.f_l_signs ["_law_number"] (lift K S_l_signs) := ok_l_signs T
  have G_l_longest : FnG P w K mg base (L2.CX P w) 1 T.a_l_longest T.f_l_longest ["_law_many_here"] (lift K S_l_longest) := ok_l_longest T
  have G_l_pairs : FnG P w K mg base (L2.CX P w) 1 T.a_l_pairs T.f_l_pairs ["_law_many_here"] (lift K S_l_pairs) := ok_l_pairs T
  have G_l_many : FnG P w K mg base (L2.CX P w) 2 T.a_l_many T.f_l_many ["_law_box_here", "_law_word"] (lift K S_l_many) := ok_l_many T G_l_take
  have G_l_call : FnG P w K mg base (L2.CX P w) 6 T.a_l_call T.f_l_call ["_law_way", "_law_word", "_law_many_here"] (liftX K cn S_l_call) := ok_l_call T G_kind_far G_kind_rows G_kind_web G_why_many
  have G_l_refused : FnG P w K mg base (L2.CX P w) 7 T.a_l_refused T.f_l_refused ["_law_way", "_law_word", "_law_many_here"] (lift K S_l_refused) := ok_l_refused T G_l_call
  have G_l_rows_right : FnG P w K mg base (L2.CX P w) 6 T.a_l_rows_right T.f_l_rows_right ["_law_word", "_law_many_here"] (lift K S_l_rows_right) := ok_l_rows_right T G_l_longest G_l_pairs G_l_signs G_kind_rows G_least_signs G_why_many
  have G_l_refusals_right : FnG P w K mg base (L2.CX P w) 8 T.a_l_refusals_right T.f_l_refusals_right ["_law_box_here", "_law_word", "_law_many_here"] (lift K S_l_refusals_right) := ok_l_refusals_right T G_l_refused G_l_take
  have G_law : FnG P w K mg base (L2.CX P w) 9 T.a_law T.f_law ["_law_script"] (lift K S_law) := ok_law T G_l_box G_l_cell G_l_many G_l_refusals_right G_l_rows_right G_l_take
  exact G_law
end
theorem all_mk {l : PySem.W.OpenLaw} {w : World} {K : PySem.W.Frag} {h : Heap} {mg : Str → Option Value} {fa : Addr} (X : K.In h) (G : h.Ns mainGlobals mg) (hfa : mg "law" = some (.ref fa))
    {od1 an1 od2 an2 od3 an3 od4 an4 od5 an5 od6 an6 od7 an7 od8 an8 od9 an9 od10 an10 od11 an11 od12 an12 od13 an13 od14 an14 od15 an15 od16 an16 od17 an17 od18 an18 od19 an19 od20 an20 od21 an21 od22 an22 : Option Addr}
    {sl1 sl2 sl3 sl4 sl5 sl6 sl7 sl8 sl9 sl10 sl11 sl12 sl13 sl14 sl15 sl16 sl17 sl18 sl19 sl20 sl21 sl22 : Array (Option Value)}
    {oc1 kV1 dc1 pm1 cd1 ct1 oc2 kV2 dc2 pm2 cd2 ct2 oc3 kV3 dc3 pm3 cd3 ct3 oc4 kV4 dc4 pm4 cd4 ct4 oc5 kV5 dc5 pm5 cd5 ct5 oc6 kV6 dc6 pm6 cd6 ct6 oc7 kV7 dc7 pm7 cd7 ct7 oc8 kV8 dc8 pm8 cd8 ct8 oc9 kV9 dc9 pm9 cd9 ct9 oc10 kV10 dc10 pm10 cd10 ct10 oc11 kV11 dc11 pm11 cd11 ct11 oc12 kV12 dc12 pm12 cd12 ct12 oc13 kV13 dc13 pm13 cd13 ct13 oc14 kV14 dc14 pm14 cd14 ct14 oc15 kV15 dc15 pm15 cd15 ct15 oc16 kV16 dc16 pm16 cd16 ct16 oc17 kV17 dc17 pm17 cd17 ct17 oc18 kV18 dc18 pm18 cd18 ct18 oc19 kV19 dc19 pm19 cd19 ct19 oc20 kV20 dc20 pm20 cd20 ct20 oc21 kV21 dc21 pm21 cd21 ct21 oc22 kV22 dc22 pm22 cd22 ct22 : Value}
    {f1 f2 f3 f4 f5 f6 f7 f8 f9 f10 f11 f12 f13 f14 f15 f16 f17 f18 f19 f20 f21 f22 : Addr}
    {tk_LETTERS_kinds tk_LETTERS_words tk_MOST_LENGTH tk_MOST_PLACES_kinds tk_MOST_PLACES_webs tk_MOST_SIGNS tk_MOST_TIES tk_MOST_kinds tk_MOST_signs : Tok}
    {CB : Addr}
    {C0 fI0 N0 : Addr} {nm0 q0 : Str} {bs0 bm0 sub0 : List Value} {sn0 : List Str} {ab0 : Bool} {col0 : Option Bool} {dd0 od_0 an_0 : Option Addr} {k0_0 k1_0 k2_0 k3_0 k5_0 : Option Value} {oc_0 kV_0 dc_0 pm_0 cd_0 ct_0 : Value} {sl_0 : Array (Option Value)}
    {C1 fI1 N1 : Addr} {nm1 q1 : Str} {bs1 bm1 sub1 : List Value} {sn1 : List Str} {ab1 : Bool} {col1 : Option Bool} {dd1 od_1 an_1 : Option Addr} {k0_1 k1_1 k2_1 k3_1 k5_1 : Option Value} {oc_1 kV_1 dc_1 pm_1 cd_1 ct_1 : Value} {sl_1 : Array (Option Value)}
    {C2 fI2 N2 : Addr} {nm2 q2 : Str} {bs2 bm2 sub2 : List Value} {sn2 : List Str} {ab2 : Bool} {col2 : Option Bool} {dd2 od_2 an_2 : Option Addr} {k0_2 k1_2 k2_2 k3_2 k5_2 : Option Value} {oc_2 kV_2 dc_2 pm_2 cd_2 ct_2 : Value} {sl_2 : Array (Option Value)}
    {C3 fI3 N3 : Addr} {nm3 q3 : Str} {bs3 bm3 sub3 : List Value} {sn3 : List Str} {ab3 : Bool} {col3 : Option Bool} {dd3 od_3 an_3 : Option Addr} {k0_3 k1_3 k2_3 k3_3 k5_3 : Option Value} {oc_3 kV_3 dc_3 pm_3 cd_3 ct_3 : Value} {sl_3 : Array (Option Value)}
    {C4 fI4 N4 : Addr} {nm4 q4 : Str} {bs4 bm4 sub4 : List Value} {sn4 : List Str} {ab4 : Bool} {col4 : Option Bool} {dd4 od_4 an_4 : Option Addr} {k0_4 k1_4 k2_4 k3_4 k5_4 : Option Value} {oc_4 kV_4 dc_4 pm_4 cd_4 ct_4 : Value} {sl_4 : Array (Option Value)}
    {C5 fI5 N5 : Addr} {nm5 q5 : Str} {bs5 bm5 sub5 : List Value} {sn5 : List Str} {ab5 : Bool} {col5 : Option Bool} {dd5 od_5 an_5 : Option Addr} {k0_5 k1_5 k2_5 k3_5 k5_5 : Option Value} {oc_5 kV_5 dc_5 pm_5 cd_5 ct_5 : Value} {sl_5 : Array (Option Value)}
    {C6 fI6 N6 : Addr} {nm6 q6 : Str} {bs6 bm6 sub6 : List Value} {sn6 : List Str} {ab6 : Bool} {col6 : Option Bool} {dd6 od_6 an_6 : Option Addr} {k0_6 k1_6 k2_6 k3_6 k5_6 : Option Value} {oc_6 kV_6 dc_6 pm_6 cd_6 ct_6 : Value} {sl_6 : Array (Option Value)}
    {C7 fI7 N7 : Addr} {nm7 q7 : Str} {bs7 bm7 sub7 : List Value} {sn7 : List Str} {ab7 : Bool} {col7 : Option Bool} {dd7 od_7 an_7 : Option Addr} {k0_7 k1_7 k2_7 k3_7 k5_7 : Option Value} {oc_7 kV_7 dc_7 pm_7 cd_7 ct_7 : Value} {sl_7 : Array (Option Value)}
    {C8 fI8 N8 : Addr} {nm8 q8 : Str} {bs8 bm8 sub8 : List Value} {sn8 : List Str} {ab8 : Bool} {col8 : Option Bool} {dd8 od_8 an_8 : Option Addr} {k0_8 k1_8 k2_8 k3_8 k5_8 : Option Value} {oc_8 kV_8 dc_8 pm_8 cd_8 ct_8 : Value} {sl_8 : Array (Option Value)}
    {C9 fI9 N9 : Addr} {nm9 q9 : Str} {bs9 bm9 sub9 : List Value} {sn9 : List Str} {ab9 : Bool} {col9 : Option Bool} {dd9 od_9 an_9 : Option Addr} {k0_9 k1_9 k2_9 k3_9 k5_9 : Option Value} {oc_9 kV_9 dc_9 pm_9 cd_9 ct_9 : Value} {sl_9 : Array (Option Value)}
    {C10 fI10 N10 : Addr} {nm10 q10 : Str} {bs10 bm10 sub10 : List Value} {sn10 : List Str} {ab10 : Bool} {col10 : Option Bool} {dd10 od_10 an_10 : Option Addr} {k0_10 k1_10 k2_10 k3_10 k5_10 : Option Value} {oc_10 kV_10 dc_10 pm_10 cd_10 ct_10 : Value} {sl_10 : Array (Option Value)}
    {C11 fI11 N11 : Addr} {nm11 q11 : Str} {bs11 bm11 sub11 : List Value} {sn11 : List Str} {ab11 : Bool} {col11 : Option Bool} {dd11 od_11 an_11 : Option Addr} {k0_11 k1_11 k2_11 k3_11 k5_11 : Option Value} {oc_11 kV_11 dc_11 pm_11 cd_11 ct_11 : Value} {sl_11 : Array (Option Value)}
    {aK_KINDS : Addr} {odK_KINDS : Option Addr} {nK_KINDS : Nat} {slK_KINDS : Array (Option Value)} {tkK_KINDS_0 tkK_KINDS_1 tkK_KINDS_2 tkK_KINDS_3 : Tok}
    (a1 : PySem.W.nsIn K mainGlobals "is_whole" = some (some (.ref f1)))
    (l1 : K.lookup f1 = some ⟨oc1, od1, .func (PySem.W.fnOf "is_whole" "is_whole" (defArgs s_is_whole) (defBody s_is_whole) (defScope s_is_whole) .none kV1 dc1 pm1 an1 cd1 ct1), sl1⟩)
    (c1 : PySem.W.codeIn K cd1 "is_whole" = true) (k1 : PySem.W.keepIn K (.ref f1) = true)
    (a2 : PySem.W.nsIn K mainGlobals "need_number" = some (some (.ref f2)))
    (l2 : K.lookup f2 = some ⟨oc2, od2, .func (PySem.W.fnOf "need_number" "need_number" (defArgs s_need_number) (defBody s_need_number) (defScope s_need_number) .none kV2 dc2 pm2 an2 cd2 ct2), sl2⟩)
    (c2 : PySem.W.codeIn K cd2 "need_number" = true) (k2 : PySem.W.keepIn K (.ref f2) = true)
    (a3 : PySem.W.nsIn K mainGlobals "row_by" = some (some (.ref f3)))
    (l3 : K.lookup f3 = some ⟨oc3, od3, .func (PySem.W.fnOf "row_by" "row_by" (defArgs s_row_by) (defBody s_row_by) (defScope s_row_by) .none kV3 dc3 pm3 an3 cd3 ct3), sl3⟩)
    (c3 : PySem.W.codeIn K cd3 "row_by" = true) (k3 : PySem.W.keepIn K (.ref f3) = true)
    (a4 : PySem.W.nsIn K mainGlobals "least_signs" = some (some (.ref f4)))
    (l4 : K.lookup f4 = some ⟨oc4, od4, .func (PySem.W.fnOf "least_signs" "least_signs" (defArgs s_least_signs) (defBody s_least_signs) (defScope s_least_signs) .none kV4 dc4 pm4 an4 cd4 ct4), sl4⟩)
    (c4 : PySem.W.codeIn K cd4 "least_signs" = true) (k4 : PySem.W.keepIn K (.ref f4) = true)
    (a5 : PySem.W.nsIn K mainGlobals "need_kind" = some (some (.ref f5)))
    (l5 : K.lookup f5 = some ⟨oc5, od5, .func (PySem.W.fnOf "need_kind" "need_kind" (defArgs s_need_kind) (defBody s_need_kind) (defScope s_need_kind) .none kV5 dc5 pm5 an5 cd5 ct5), sl5⟩)
    (c5 : PySem.W.codeIn K cd5 "need_kind" = true) (k5 : PySem.W.keepIn K (.ref f5) = true)
    (a6 : PySem.W.nsIn K mainGlobals "rows_for_pairs" = some (some (.ref f6)))
    (l6 : K.lookup f6 = some ⟨oc6, od6, .func (PySem.W.fnOf "rows_for_pairs" "rows_for_pairs" (defArgs s_rows_for_pairs) (defBody s_rows_for_pairs) (defScope s_rows_for_pairs) .none kV6 dc6 pm6 an6 cd6 ct6), sl6⟩)
    (c6 : PySem.W.codeIn K cd6 "rows_for_pairs" = true) (k6 : PySem.W.keepIn K (.ref f6) = true)
    (a7 : PySem.W.nsIn K mainGlobals "why_many" = some (some (.ref f7)))
    (l7 : K.lookup f7 = some ⟨oc7, od7, .func (PySem.W.fnOf "why_many" "why_many" (defArgs s_why_many) (defBody s_why_many) (defScope s_why_many) .none kV7 dc7 pm7 an7 cd7 ct7), sl7⟩)
    (c7 : PySem.W.codeIn K cd7 "why_many" = true) (k7 : PySem.W.keepIn K (.ref f7) = true)
    (a8 : PySem.W.nsIn K mainGlobals "kind_rows" = some (some (.ref f8)))
    (l8 : K.lookup f8 = some ⟨oc8, od8, .func (PySem.W.fnOf "kind_rows" "kind_rows" (defArgs s_kind_rows) (defBody s_kind_rows) (defScope s_kind_rows) .none kV8 dc8 pm8 an8 cd8 ct8), sl8⟩)
    (c8 : PySem.W.codeIn K cd8 "kind_rows" = true) (k8 : PySem.W.keepIn K (.ref f8) = true)
    (a9 : PySem.W.nsIn K mainGlobals "kind_far" = some (some (.ref f9)))
    (l9 : K.lookup f9 = some ⟨oc9, od9, .func (PySem.W.fnOf "kind_far" "kind_far" (defArgs s_kind_far) (defBody s_kind_far) (defScope s_kind_far) .none kV9 dc9 pm9 an9 cd9 ct9), sl9⟩)
    (c9 : PySem.W.codeIn K cd9 "kind_far" = true) (k9 : PySem.W.keepIn K (.ref f9) = true)
    (a10 : PySem.W.nsIn K mainGlobals "kind_web" = some (some (.ref f10)))
    (l10 : K.lookup f10 = some ⟨oc10, od10, .func (PySem.W.fnOf "kind_web" "kind_web" (defArgs s_kind_web) (defBody s_kind_web) (defScope s_kind_web) .none kV10 dc10 pm10 an10 cd10 ct10), sl10⟩)
    (c10 : PySem.W.codeIn K cd10 "kind_web" = true) (k10 : PySem.W.keepIn K (.ref f10) = true)
    (a11 : PySem.W.nsIn K mainGlobals "_law_cell" = some (some (.ref f11)))
    (l11 : K.lookup f11 = some ⟨oc11, od11, .func (PySem.W.fnOf "_law_cell" "_law_cell" (defArgs s_l_cell) (defBody s_l_cell) (defScope s_l_cell) .none kV11 dc11 pm11 an11 cd11 ct11), sl11⟩)
    (c11 : PySem.W.codeIn K cd11 "_law_cell" = true) (k11 : PySem.W.keepIn K (.ref f11) = true)
    (a12 : PySem.W.nsIn K mainGlobals "_law_box" = some (some (.ref f12)))
    (l12 : K.lookup f12 = some ⟨oc12, od12, .func (PySem.W.fnOf "_law_box" "_law_box" (defArgs s_l_box) (defBody s_l_box) (defScope s_l_box) .none kV12 dc12 pm12 an12 cd12 ct12), sl12⟩)
    (c12 : PySem.W.codeIn K cd12 "_law_box" = true) (k12 : PySem.W.keepIn K (.ref f12) = true)
    (a13 : PySem.W.nsIn K mainGlobals "_law_take" = some (some (.ref f13)))
    (l13 : K.lookup f13 = some ⟨oc13, od13, .func (PySem.W.fnOf "_law_take" "_law_take" (defArgs s_l_take) (defBody s_l_take) (defScope s_l_take) .none kV13 dc13 pm13 an13 cd13 ct13), sl13⟩)
    (c13 : PySem.W.codeIn K cd13 "_law_take" = true) (k13 : PySem.W.keepIn K (.ref f13) = true)
    (a14 : PySem.W.nsIn K mainGlobals "_law_signs" = some (some (.ref f14)))
    (l14 : K.lookup f14 = some ⟨oc14, od14, .func (PySem.W.fnOf "_law_signs" "_law_signs" (defArgs s_l_signs) (defBody s_l_signs) (defScope s_l_signs) .none kV14 dc14 pm14 an14 cd14 ct14), sl14⟩)
    (c14 : PySem.W.codeIn K cd14 "_law_signs" = true) (k14 : PySem.W.keepIn K (.ref f14) = true)
    (a15 : PySem.W.nsIn K mainGlobals "_law_longest" = some (some (.ref f15)))
    (l15 : K.lookup f15 = some ⟨oc15, od15, .func (PySem.W.fnOf "_law_longest" "_law_longest" (defArgs s_l_longest) (defBody s_l_longest) (defScope s_l_longest) .none kV15 dc15 pm15 an15 cd15 ct15), sl15⟩)
    (c15 : PySem.W.codeIn K cd15 "_law_longest" = true) (k15 : PySem.W.keepIn K (.ref f15) = true)
    (a16 : PySem.W.nsIn K mainGlobals "_law_pairs" = some (some (.ref f16)))
    (l16 : K.lookup f16 = some ⟨oc16, od16, .func (PySem.W.fnOf "_law_pairs" "_law_pairs" (defArgs s_l_pairs) (defBody s_l_pairs) (defScope s_l_pairs) .none kV16 dc16 pm16 an16 cd16 ct16), sl16⟩)
    (c16 : PySem.W.codeIn K cd16 "_law_pairs" = true) (k16 : PySem.W.keepIn K (.ref f16) = true)
    (a17 : PySem.W.nsIn K mainGlobals "_law_many" = some (some (.ref f17)))
    (l17 : K.lookup f17 = some ⟨oc17, od17, .func (PySem.W.fnOf "_law_many" "_law_many" (defArgs s_l_many) (defBody s_l_many) (defScope s_l_many) .none kV17 dc17 pm17 an17 cd17 ct17), sl17⟩)
    (c17 : PySem.W.codeIn K cd17 "_law_many" = true) (k17 : PySem.W.keepIn K (.ref f17) = true)
    (a18 : PySem.W.nsIn K mainGlobals "_law_call" = some (some (.ref f18)))
    (l18 : K.lookup f18 = some ⟨oc18, od18, .func (PySem.W.fnOf "_law_call" "_law_call" (defArgs s_l_call) (defBody s_l_call) (defScope s_l_call) .none kV18 dc18 pm18 an18 cd18 ct18), sl18⟩)
    (c18 : PySem.W.codeIn K cd18 "_law_call" = true) (k18 : PySem.W.keepIn K (.ref f18) = true)
    (a19 : PySem.W.nsIn K mainGlobals "_law_refused" = some (some (.ref f19)))
    (l19 : K.lookup f19 = some ⟨oc19, od19, .func (PySem.W.fnOf "_law_refused" "_law_refused" (defArgs s_l_refused) (defBody s_l_refused) (defScope s_l_refused) .none kV19 dc19 pm19 an19 cd19 ct19), sl19⟩)
    (c19 : PySem.W.codeIn K cd19 "_law_refused" = true) (k19 : PySem.W.keepIn K (.ref f19) = true)
    (a20 : PySem.W.nsIn K mainGlobals "_law_rows_right" = some (some (.ref f20)))
    (l20 : K.lookup f20 = some ⟨oc20, od20, .func (PySem.W.fnOf "_law_rows_right" "_law_rows_right" (defArgs s_l_rows_right) (defBody s_l_rows_right) (defScope s_l_rows_right) .none kV20 dc20 pm20 an20 cd20 ct20), sl20⟩)
    (c20 : PySem.W.codeIn K cd20 "_law_rows_right" = true) (k20 : PySem.W.keepIn K (.ref f20) = true)
    (a21 : PySem.W.nsIn K mainGlobals "_law_refusals_right" = some (some (.ref f21)))
    (l21 : K.lookup f21 = some ⟨oc21, od21, .func (PySem.W.fnOf "_law_refusals_right" "_law_refusals_right" (defArgs s_l_refusals_right) (defBody s_l_refusals_right) (defScope s_l_refusals_right) .none kV21 dc21 pm21 an21 cd21 ct21), sl21⟩)
    (c21 : PySem.W.codeIn K cd21 "_law_refusals_right" = true) (k21 : PySem.W.keepIn K (.ref f21) = true)
    (a22 : PySem.W.nsIn K mainGlobals "law" = some (some (.ref f22)))
    (l22 : K.lookup f22 = some ⟨oc22, od22, .func (PySem.W.fnOf "law" "law" (defArgs s_law) (defBody s_law) (defScope s_law) .none kV22 dc22 pm22 an22 cd22 ct22), sl22⟩)
    (c22 : PySem.W.codeIn K cd22 "law" = true) (k22 : PySem.W.keepIn K (.ref f22) = true)
    (aB : PySem.W.nsIn K mainGlobals "MarkError" = some (some (.ref CB))) (bB1 : PySem.W.readsIn K CB (.type "type") = true) (bB2 : PySem.W.specialIn K (.ref CB) "__getattribute__" = some (some (.builtin "type.__getattribute__"))) (bB3 : PySem.W.findCls K (.ref CB) (.type "type") "__init__" = some (.val (.builtin "ValueError.__init__"))) (bB4 : PySem.W.subIn K (.ref CB) (.type "BaseException") = some true) (bB5 : PySem.W.hasDictIn K CB = true) (bB6 : PySem.W.typeIn K (.ref CB) = some (.type "type"))
    (oN : PySem.W.specialIn K (.builtin "object.__class__") "__get__" = some (some (.builtin "getset_descriptor.__get__"))) (oT : PySem.W.takesIn K (.builtin "object.__class__") = some true)
    (xa0 : PySem.W.nsIn K mainGlobals "NoPlaces" = some (some (.ref C0)))
    (xl0 : K.lookup C0 = some (excClassObj nm0 q0 C0 N0 bs0 bm0 true sn0 sub0 ab0 col0 dd0 k0_0 k1_0 k2_0 k3_0 k5_0 "ValueError.__new__"))
    (xm0 : PySem.HandSPX.refsVE bm0 = true)
    (xs0 : PySem.W.findIn K (.ref C0) "__setattr__" = some (some (.builtin "object.__setattr__")))
    (xe0 : PySem.W.subIn K (.ref C0) (.type "BaseException") = some true)
    (xt0 : PySem.W.typeIn K (.ref C0) = some (.type "type"))
    (xk0 : PySem.W.keepIn K (.ref C0) = true)
    (xga0 : PySem.W.findIn K (.ref C0) "__getattribute__" = some (some (.builtin "BaseException.__getattribute__")))
    (xgg0 : PySem.W.findIn K (.ref C0) "__getattr__" = some none)
    (xhd0 : PySem.W.hasDictIn K C0 = true)
    (xat0 : PySem.W.findIn K (.ref C0) "__class__" = some (some (.builtin "object.__class__")))
    (xmo0 : PySem.W.mroIn K C0 (.type "object") = some true)
    (xi0 : PySem.W.findIn K (.ref C0) "__init__" = some (some (.ref fI0)))
    (xti0 : PySem.W.typeIn K (.ref fI0) = some (.type "function"))
    (xli0 : K.lookup fI0 = some ⟨oc_0, od_0, .func (PySem.W.fnOf "__init__" "NoPlaces.__init__" (defArgs s_NoPlaces) (defBody s_NoPlaces) (defScope s_NoPlaces) .none kV_0 dc_0 pm_0 an_0 cd_0 ct_0), sl_0⟩)
    (xci0 : PySem.W.codeIn K cd_0 "NoPlaces.__init__" = true)
    (xki0 : PySem.W.keepIn K (.ref fI0) = true)
    (xsb0 : PySem.W.subIn K (.ref C0) (.ref CB) = some true)
    (xfo_0_0 : PySem.W.findIn K (.ref C0) "found" = some none)
    (xa1 : PySem.W.nsIn K mainGlobals "NoName" = some (some (.ref C1)))
    (xl1 : K.lookup C1 = some (excClassObj nm1 q1 C1 N1 bs1 bm1 true sn1 sub1 ab1 col1 dd1 k0_1 k1_1 k2_1 k3_1 k5_1 "ValueError.__new__"))
    (xm1 : PySem.HandSPX.refsVE bm1 = true)
    (xs1 : PySem.W.findIn K (.ref C1) "__setattr__" = some (some (.builtin "object.__setattr__")))
    (xe1 : PySem.W.subIn K (.ref C1) (.type "BaseException") = some true)
    (xt1 : PySem.W.typeIn K (.ref C1) = some (.type "type"))
    (xk1 : PySem.W.keepIn K (.ref C1) = true)
    (xga1 : PySem.W.findIn K (.ref C1) "__getattribute__" = some (some (.builtin "BaseException.__getattribute__")))
    (xgg1 : PySem.W.findIn K (.ref C1) "__getattr__" = some none)
    (xhd1 : PySem.W.hasDictIn K C1 = true)
    (xat1 : PySem.W.findIn K (.ref C1) "__class__" = some (some (.builtin "object.__class__")))
    (xmo1 : PySem.W.mroIn K C1 (.type "object") = some true)
    (xi1 : PySem.W.findIn K (.ref C1) "__init__" = some (some (.ref fI1)))
    (xti1 : PySem.W.typeIn K (.ref fI1) = some (.type "function"))
    (xli1 : K.lookup fI1 = some ⟨oc_1, od_1, .func (PySem.W.fnOf "__init__" "NoName.__init__" (defArgs s_NoName) (defBody s_NoName) (defScope s_NoName) .none kV_1 dc_1 pm_1 an_1 cd_1 ct_1), sl_1⟩)
    (xci1 : PySem.W.codeIn K cd_1 "NoName.__init__" = true)
    (xki1 : PySem.W.keepIn K (.ref fI1) = true)
    (xsb1 : PySem.W.subIn K (.ref C1) (.ref CB) = some true)
    (xfo_0_1 : PySem.W.findIn K (.ref C1) "found" = some none)
    (xa2 : PySem.W.nsIn K mainGlobals "Twice" = some (some (.ref C2)))
    (xl2 : K.lookup C2 = some (excClassObj nm2 q2 C2 N2 bs2 bm2 true sn2 sub2 ab2 col2 dd2 k0_2 k1_2 k2_2 k3_2 k5_2 "ValueError.__new__"))
    (xm2 : PySem.HandSPX.refsVE bm2 = true)
    (xs2 : PySem.W.findIn K (.ref C2) "__setattr__" = some (some (.builtin "object.__setattr__")))
    (xe2 : PySem.W.subIn K (.ref C2) (.type "BaseException") = some true)
    (xt2 : PySem.W.typeIn K (.ref C2) = some (.type "type"))
    (xk2 : PySem.W.keepIn K (.ref C2) = true)
    (xga2 : PySem.W.findIn K (.ref C2) "__getattribute__" = some (some (.builtin "BaseException.__getattribute__")))
    (xgg2 : PySem.W.findIn K (.ref C2) "__getattr__" = some none)
    (xhd2 : PySem.W.hasDictIn K C2 = true)
    (xat2 : PySem.W.findIn K (.ref C2) "__class__" = some (some (.builtin "object.__class__")))
    (xmo2 : PySem.W.mroIn K C2 (.type "object") = some true)
    (xi2 : PySem.W.findIn K (.ref C2) "__init__" = some (some (.ref fI2)))
    (xti2 : PySem.W.typeIn K (.ref fI2) = some (.type "function"))
    (xli2 : K.lookup fI2 = some ⟨oc_2, od_2, .func (PySem.W.fnOf "__init__" "Twice.__init__" (defArgs s_Twice) (defBody s_Twice) (defScope s_Twice) .none kV_2 dc_2 pm_2 an_2 cd_2 ct_2), sl_2⟩)
    (xci2 : PySem.W.codeIn K cd_2 "Twice.__init__" = true)
    (xki2 : PySem.W.keepIn K (.ref fI2) = true)
    (xsb2 : PySem.W.subIn K (.ref C2) (.ref CB) = some true)
    (xfo_0_2 : PySem.W.findIn K (.ref C2) "found" = some none)
    (xa3 : PySem.W.nsIn K mainGlobals "NoTies" = some (some (.ref C3)))
    (xl3 : K.lookup C3 = some (excClassObj nm3 q3 C3 N3 bs3 bm3 true sn3 sub3 ab3 col3 dd3 k0_3 k1_3 k2_3 k3_3 k5_3 "ValueError.__new__"))
    (xm3 : PySem.HandSPX.refsVE bm3 = true)
    (xs3 : PySem.W.findIn K (.ref C3) "__setattr__" = some (some (.builtin "object.__setattr__")))
    (xe3 : PySem.W.subIn K (.ref C3) (.type "BaseException") = some true)
    (xt3 : PySem.W.typeIn K (.ref C3) = some (.type "type"))
    (xk3 : PySem.W.keepIn K (.ref C3) = true)
    (xga3 : PySem.W.findIn K (.ref C3) "__getattribute__" = some (some (.builtin "BaseException.__getattribute__")))
    (xgg3 : PySem.W.findIn K (.ref C3) "__getattr__" = some none)
    (xhd3 : PySem.W.hasDictIn K C3 = true)
    (xat3 : PySem.W.findIn K (.ref C3) "__class__" = some (some (.builtin "object.__class__")))
    (xmo3 : PySem.W.mroIn K C3 (.type "object") = some true)
    (xi3 : PySem.W.findIn K (.ref C3) "__init__" = some (some (.ref fI3)))
    (xti3 : PySem.W.typeIn K (.ref fI3) = some (.type "function"))
    (xli3 : K.lookup fI3 = some ⟨oc_3, od_3, .func (PySem.W.fnOf "__init__" "NoTies.__init__" (defArgs s_NoTies) (defBody s_NoTies) (defScope s_NoTies) .none kV_3 dc_3 pm_3 an_3 cd_3 ct_3), sl_3⟩)
    (xci3 : PySem.W.codeIn K cd_3 "NoTies.__init__" = true)
    (xki3 : PySem.W.keepIn K (.ref fI3) = true)
    (xsb3 : PySem.W.subIn K (.ref C3) (.ref CB) = some true)
    (xfo_0_3 : PySem.W.findIn K (.ref C3) "found" = some none)
    (xa4 : PySem.W.nsIn K mainGlobals "NoTie" = some (some (.ref C4)))
    (xl4 : K.lookup C4 = some (excClassObj nm4 q4 C4 N4 bs4 bm4 true sn4 sub4 ab4 col4 dd4 k0_4 k1_4 k2_4 k3_4 k5_4 "ValueError.__new__"))
    (xm4 : PySem.HandSPX.refsVE bm4 = true)
    (xs4 : PySem.W.findIn K (.ref C4) "__setattr__" = some (some (.builtin "object.__setattr__")))
    (xe4 : PySem.W.subIn K (.ref C4) (.type "BaseException") = some true)
    (xt4 : PySem.W.typeIn K (.ref C4) = some (.type "type"))
    (xk4 : PySem.W.keepIn K (.ref C4) = true)
    (xga4 : PySem.W.findIn K (.ref C4) "__getattribute__" = some (some (.builtin "BaseException.__getattribute__")))
    (xgg4 : PySem.W.findIn K (.ref C4) "__getattr__" = some none)
    (xhd4 : PySem.W.hasDictIn K C4 = true)
    (xat4 : PySem.W.findIn K (.ref C4) "__class__" = some (some (.builtin "object.__class__")))
    (xmo4 : PySem.W.mroIn K C4 (.type "object") = some true)
    (xi4 : PySem.W.findIn K (.ref C4) "__init__" = some (some (.ref fI4)))
    (xti4 : PySem.W.typeIn K (.ref fI4) = some (.type "function"))
    (xli4 : K.lookup fI4 = some ⟨oc_4, od_4, .func (PySem.W.fnOf "__init__" "NoTie.__init__" (defArgs s_NoTie) (defBody s_NoTie) (defScope s_NoTie) .none kV_4 dc_4 pm_4 an_4 cd_4 ct_4), sl_4⟩)
    (xci4 : PySem.W.codeIn K cd_4 "NoTie.__init__" = true)
    (xki4 : PySem.W.keepIn K (.ref fI4) = true)
    (xsb4 : PySem.W.subIn K (.ref C4) (.ref CB) = some true)
    (xfo_0_4 : PySem.W.findIn K (.ref C4) "found" = some none)
    (xa5 : PySem.W.nsIn K mainGlobals "NoPlace" = some (some (.ref C5)))
    (xl5 : K.lookup C5 = some (excClassObj nm5 q5 C5 N5 bs5 bm5 true sn5 sub5 ab5 col5 dd5 k0_5 k1_5 k2_5 k3_5 k5_5 "ValueError.__new__"))
    (xm5 : PySem.HandSPX.refsVE bm5 = true)
    (xs5 : PySem.W.findIn K (.ref C5) "__setattr__" = some (some (.builtin "object.__setattr__")))
    (xe5 : PySem.W.subIn K (.ref C5) (.type "BaseException") = some true)
    (xt5 : PySem.W.typeIn K (.ref C5) = some (.type "type"))
    (xk5 : PySem.W.keepIn K (.ref C5) = true)
    (xga5 : PySem.W.findIn K (.ref C5) "__getattribute__" = some (some (.builtin "BaseException.__getattribute__")))
    (xgg5 : PySem.W.findIn K (.ref C5) "__getattr__" = some none)
    (xhd5 : PySem.W.hasDictIn K C5 = true)
    (xat5 : PySem.W.findIn K (.ref C5) "__class__" = some (some (.builtin "object.__class__")))
    (xmo5 : PySem.W.mroIn K C5 (.type "object") = some true)
    (xi5 : PySem.W.findIn K (.ref C5) "__init__" = some (some (.ref fI5)))
    (xti5 : PySem.W.typeIn K (.ref fI5) = some (.type "function"))
    (xli5 : K.lookup fI5 = some ⟨oc_5, od_5, .func (PySem.W.fnOf "__init__" "NoPlace.__init__" (defArgs s_NoPlace) (defBody s_NoPlace) (defScope s_NoPlace) .none kV_5 dc_5 pm_5 an_5 cd_5 ct_5), sl_5⟩)
    (xci5 : PySem.W.codeIn K cd_5 "NoPlace.__init__" = true)
    (xki5 : PySem.W.keepIn K (.ref fI5) = true)
    (xsb5 : PySem.W.subIn K (.ref C5) (.ref CB) = some true)
    (xfo_0_5 : PySem.W.findIn K (.ref C5) "found" = some none)
    (xa6 : PySem.W.nsIn K mainGlobals "Loop" = some (some (.ref C6)))
    (xl6 : K.lookup C6 = some (excClassObj nm6 q6 C6 N6 bs6 bm6 true sn6 sub6 ab6 col6 dd6 k0_6 k1_6 k2_6 k3_6 k5_6 "ValueError.__new__"))
    (xm6 : PySem.HandSPX.refsVE bm6 = true)
    (xs6 : PySem.W.findIn K (.ref C6) "__setattr__" = some (some (.builtin "object.__setattr__")))
    (xe6 : PySem.W.subIn K (.ref C6) (.type "BaseException") = some true)
    (xt6 : PySem.W.typeIn K (.ref C6) = some (.type "type"))
    (xk6 : PySem.W.keepIn K (.ref C6) = true)
    (xga6 : PySem.W.findIn K (.ref C6) "__getattribute__" = some (some (.builtin "BaseException.__getattribute__")))
    (xgg6 : PySem.W.findIn K (.ref C6) "__getattr__" = some none)
    (xhd6 : PySem.W.hasDictIn K C6 = true)
    (xat6 : PySem.W.findIn K (.ref C6) "__class__" = some (some (.builtin "object.__class__")))
    (xmo6 : PySem.W.mroIn K C6 (.type "object") = some true)
    (xi6 : PySem.W.findIn K (.ref C6) "__init__" = some (some (.ref fI6)))
    (xti6 : PySem.W.typeIn K (.ref fI6) = some (.type "function"))
    (xli6 : K.lookup fI6 = some ⟨oc_6, od_6, .func (PySem.W.fnOf "__init__" "Loop.__init__" (defArgs s_Loop) (defBody s_Loop) (defScope s_Loop) .none kV_6 dc_6 pm_6 an_6 cd_6 ct_6), sl_6⟩)
    (xci6 : PySem.W.codeIn K cd_6 "Loop.__init__" = true)
    (xki6 : PySem.W.keepIn K (.ref fI6) = true)
    (xsb6 : PySem.W.subIn K (.ref C6) (.ref CB) = some true)
    (xfo_0_6 : PySem.W.findIn K (.ref C6) "found" = some none)
    (xa7 : PySem.W.nsIn K mainGlobals "NoLength" = some (some (.ref C7)))
    (xl7 : K.lookup C7 = some (excClassObj nm7 q7 C7 N7 bs7 bm7 true sn7 sub7 ab7 col7 dd7 k0_7 k1_7 k2_7 k3_7 k5_7 "ValueError.__new__"))
    (xm7 : PySem.HandSPX.refsVE bm7 = true)
    (xs7 : PySem.W.findIn K (.ref C7) "__setattr__" = some (some (.builtin "object.__setattr__")))
    (xe7 : PySem.W.subIn K (.ref C7) (.type "BaseException") = some true)
    (xt7 : PySem.W.typeIn K (.ref C7) = some (.type "type"))
    (xk7 : PySem.W.keepIn K (.ref C7) = true)
    (xga7 : PySem.W.findIn K (.ref C7) "__getattribute__" = some (some (.builtin "BaseException.__getattribute__")))
    (xgg7 : PySem.W.findIn K (.ref C7) "__getattr__" = some none)
    (xhd7 : PySem.W.hasDictIn K C7 = true)
    (xat7 : PySem.W.findIn K (.ref C7) "__class__" = some (some (.builtin "object.__class__")))
    (xmo7 : PySem.W.mroIn K C7 (.type "object") = some true)
    (xi7 : PySem.W.findIn K (.ref C7) "__init__" = some (some (.ref fI7)))
    (xti7 : PySem.W.typeIn K (.ref fI7) = some (.type "function"))
    (xli7 : K.lookup fI7 = some ⟨oc_7, od_7, .func (PySem.W.fnOf "__init__" "NoLength.__init__" (defArgs s_NoLength) (defBody s_NoLength) (defScope s_NoLength) .none kV_7 dc_7 pm_7 an_7 cd_7 ct_7), sl_7⟩)
    (xci7 : PySem.W.codeIn K cd_7 "NoLength.__init__" = true)
    (xki7 : PySem.W.keepIn K (.ref fI7) = true)
    (xsb7 : PySem.W.subIn K (.ref C7) (.ref CB) = some true)
    (xfo_0_7 : PySem.W.findIn K (.ref C7) "found" = some none)
    (xa8 : PySem.W.nsIn K mainGlobals "NoNumber" = some (some (.ref C8)))
    (xl8 : K.lookup C8 = some (excClassObj nm8 q8 C8 N8 bs8 bm8 true sn8 sub8 ab8 col8 dd8 k0_8 k1_8 k2_8 k3_8 k5_8 "ValueError.__new__"))
    (xm8 : PySem.HandSPX.refsVE bm8 = true)
    (xs8 : PySem.W.findIn K (.ref C8) "__setattr__" = some (some (.builtin "object.__setattr__")))
    (xe8 : PySem.W.subIn K (.ref C8) (.type "BaseException") = some true)
    (xt8 : PySem.W.typeIn K (.ref C8) = some (.type "type"))
    (xk8 : PySem.W.keepIn K (.ref C8) = true)
    (xga8 : PySem.W.findIn K (.ref C8) "__getattribute__" = some (some (.builtin "BaseException.__getattribute__")))
    (xgg8 : PySem.W.findIn K (.ref C8) "__getattr__" = some none)
    (xhd8 : PySem.W.hasDictIn K C8 = true)
    (xat8 : PySem.W.findIn K (.ref C8) "__class__" = some (some (.builtin "object.__class__")))
    (xmo8 : PySem.W.mroIn K C8 (.type "object") = some true)
    (xi8 : PySem.W.findIn K (.ref C8) "__init__" = some (some (.ref fI8)))
    (xti8 : PySem.W.typeIn K (.ref fI8) = some (.type "function"))
    (xli8 : K.lookup fI8 = some ⟨oc_8, od_8, .func (PySem.W.fnOf "__init__" "NoNumber.__init__" (defArgs s_NoNumber) (defBody s_NoNumber) (defScope s_NoNumber) .none kV_8 dc_8 pm_8 an_8 cd_8 ct_8), sl_8⟩)
    (xci8 : PySem.W.codeIn K cd_8 "NoNumber.__init__" = true)
    (xki8 : PySem.W.keepIn K (.ref fI8) = true)
    (xsb8 : PySem.W.subIn K (.ref C8) (.ref CB) = some true)
    (xfo_0_8 : PySem.W.findIn K (.ref C8) "found" = some none)
    (xa9 : PySem.W.nsIn K mainGlobals "NoSigns" = some (some (.ref C9)))
    (xl9 : K.lookup C9 = some (excClassObj nm9 q9 C9 N9 bs9 bm9 true sn9 sub9 ab9 col9 dd9 k0_9 k1_9 k2_9 k3_9 k5_9 "ValueError.__new__"))
    (xm9 : PySem.HandSPX.refsVE bm9 = true)
    (xs9 : PySem.W.findIn K (.ref C9) "__setattr__" = some (some (.builtin "object.__setattr__")))
    (xe9 : PySem.W.subIn K (.ref C9) (.type "BaseException") = some true)
    (xt9 : PySem.W.typeIn K (.ref C9) = some (.type "type"))
    (xk9 : PySem.W.keepIn K (.ref C9) = true)
    (xga9 : PySem.W.findIn K (.ref C9) "__getattribute__" = some (some (.builtin "BaseException.__getattribute__")))
    (xgg9 : PySem.W.findIn K (.ref C9) "__getattr__" = some none)
    (xhd9 : PySem.W.hasDictIn K C9 = true)
    (xat9 : PySem.W.findIn K (.ref C9) "__class__" = some (some (.builtin "object.__class__")))
    (xmo9 : PySem.W.mroIn K C9 (.type "object") = some true)
    (xi9 : PySem.W.findIn K (.ref C9) "__init__" = some (some (.ref fI9)))
    (xti9 : PySem.W.typeIn K (.ref fI9) = some (.type "function"))
    (xli9 : K.lookup fI9 = some ⟨oc_9, od_9, .func (PySem.W.fnOf "__init__" "NoSigns.__init__" (defArgs s_NoSigns) (defBody s_NoSigns) (defScope s_NoSigns) .none kV_9 dc_9 pm_9 an_9 cd_9 ct_9), sl_9⟩)
    (xci9 : PySem.W.codeIn K cd_9 "NoSigns.__init__" = true)
    (xki9 : PySem.W.keepIn K (.ref fI9) = true)
    (xsb9 : PySem.W.subIn K (.ref C9) (.ref CB) = some true)
    (xfo_0_9 : PySem.W.findIn K (.ref C9) "found" = some none)
    (xa10 : PySem.W.nsIn K mainGlobals "NoKind" = some (some (.ref C10)))
    (xl10 : K.lookup C10 = some (excClassObj nm10 q10 C10 N10 bs10 bm10 true sn10 sub10 ab10 col10 dd10 k0_10 k1_10 k2_10 k3_10 k5_10 "ValueError.__new__"))
    (xm10 : PySem.HandSPX.refsVE bm10 = true)
    (xs10 : PySem.W.findIn K (.ref C10) "__setattr__" = some (some (.builtin "object.__setattr__")))
    (xe10 : PySem.W.subIn K (.ref C10) (.type "BaseException") = some true)
    (xt10 : PySem.W.typeIn K (.ref C10) = some (.type "type"))
    (xk10 : PySem.W.keepIn K (.ref C10) = true)
    (xga10 : PySem.W.findIn K (.ref C10) "__getattribute__" = some (some (.builtin "BaseException.__getattribute__")))
    (xgg10 : PySem.W.findIn K (.ref C10) "__getattr__" = some none)
    (xhd10 : PySem.W.hasDictIn K C10 = true)
    (xat10 : PySem.W.findIn K (.ref C10) "__class__" = some (some (.builtin "object.__class__")))
    (xmo10 : PySem.W.mroIn K C10 (.type "object") = some true)
    (xi10 : PySem.W.findIn K (.ref C10) "__init__" = some (some (.ref fI10)))
    (xti10 : PySem.W.typeIn K (.ref fI10) = some (.type "function"))
    (xli10 : K.lookup fI10 = some ⟨oc_10, od_10, .func (PySem.W.fnOf "__init__" "NoKind.__init__" (defArgs s_NoKind) (defBody s_NoKind) (defScope s_NoKind) .none kV_10 dc_10 pm_10 an_10 cd_10 ct_10), sl_10⟩)
    (xci10 : PySem.W.codeIn K cd_10 "NoKind.__init__" = true)
    (xki10 : PySem.W.keepIn K (.ref fI10) = true)
    (xsb10 : PySem.W.subIn K (.ref C10) (.ref CB) = some true)
    (xfo_0_10 : PySem.W.findIn K (.ref C10) "found" = some none)
    (xa11 : PySem.W.nsIn K mainGlobals "Tied" = some (some (.ref C11)))
    (xl11 : K.lookup C11 = some (excClassObj nm11 q11 C11 N11 bs11 bm11 true sn11 sub11 ab11 col11 dd11 k0_11 k1_11 k2_11 k3_11 k5_11 "ValueError.__new__"))
    (xm11 : PySem.HandSPX.refsVE bm11 = true)
    (xs11 : PySem.W.findIn K (.ref C11) "__setattr__" = some (some (.builtin "object.__setattr__")))
    (xe11 : PySem.W.subIn K (.ref C11) (.type "BaseException") = some true)
    (xt11 : PySem.W.typeIn K (.ref C11) = some (.type "type"))
    (xk11 : PySem.W.keepIn K (.ref C11) = true)
    (xga11 : PySem.W.findIn K (.ref C11) "__getattribute__" = some (some (.builtin "BaseException.__getattribute__")))
    (xgg11 : PySem.W.findIn K (.ref C11) "__getattr__" = some none)
    (xhd11 : PySem.W.hasDictIn K C11 = true)
    (xat11 : PySem.W.findIn K (.ref C11) "__class__" = some (some (.builtin "object.__class__")))
    (xmo11 : PySem.W.mroIn K C11 (.type "object") = some true)
    (xi11 : PySem.W.findIn K (.ref C11) "__init__" = some (some (.ref fI11)))
    (xti11 : PySem.W.typeIn K (.ref fI11) = some (.type "function"))
    (xli11 : K.lookup fI11 = some ⟨oc_11, od_11, .func (PySem.W.fnOf "__init__" "Tied.__init__" (defArgs s_Tied) (defBody s_Tied) (defScope s_Tied) .none kV_11 dc_11 pm_11 an_11 cd_11 ct_11), sl_11⟩)
    (xci11 : PySem.W.codeIn K cd_11 "Tied.__init__" = true)
    (xki11 : PySem.W.keepIn K (.ref fI11) = true)
    (xsb11 : PySem.W.subIn K (.ref C11) (.ref CB) = some true)
    (xfo_0_11 : PySem.W.findIn K (.ref C11) "other" = some none)
    (xfo_1_11 : PySem.W.findIn K (.ref C11) "one" = some none)
    (xu0_8 : PySem.W.subIn K (.ref C0) (.ref C8) = some false)
    (xu0_10 : PySem.W.subIn K (.ref C0) (.ref C10) = some false)
    (xu1_8 : PySem.W.subIn K (.ref C1) (.ref C8) = some false)
    (xu1_10 : PySem.W.subIn K (.ref C1) (.ref C10) = some false)
    (xu2_8 : PySem.W.subIn K (.ref C2) (.ref C8) = some false)
    (xu2_10 : PySem.W.subIn K (.ref C2) (.ref C10) = some false)
    (xu3_8 : PySem.W.subIn K (.ref C3) (.ref C8) = some false)
    (xu3_10 : PySem.W.subIn K (.ref C3) (.ref C10) = some false)
    (xu4_8 : PySem.W.subIn K (.ref C4) (.ref C8) = some false)
    (xu4_10 : PySem.W.subIn K (.ref C4) (.ref C10) = some false)
    (xu5_8 : PySem.W.subIn K (.ref C5) (.ref C8) = some false)
    (xu5_10 : PySem.W.subIn K (.ref C5) (.ref C10) = some false)
    (xu6_8 : PySem.W.subIn K (.ref C6) (.ref C8) = some false)
    (xu6_10 : PySem.W.subIn K (.ref C6) (.ref C10) = some false)
    (xu7_8 : PySem.W.subIn K (.ref C7) (.ref C8) = some false)
    (xu7_10 : PySem.W.subIn K (.ref C7) (.ref C10) = some false)
    (xu8_8 : PySem.W.subIn K (.ref C8) (.ref C8) = some true)
    (xu8_10 : PySem.W.subIn K (.ref C8) (.ref C10) = some false)
    (xu9_8 : PySem.W.subIn K (.ref C9) (.ref C8) = some false)
    (xu9_10 : PySem.W.subIn K (.ref C9) (.ref C10) = some false)
    (xu10_8 : PySem.W.subIn K (.ref C10) (.ref C8) = some false)
    (xu10_10 : PySem.W.subIn K (.ref C10) (.ref C10) = some true)
    (xu11_8 : PySem.W.subIn K (.ref C11) (.ref C8) = some false)
    (xu11_10 : PySem.W.subIn K (.ref C11) (.ref C10) = some false)
    (z_bool : PySem.W.nsIn K mainGlobals "bool" = some none)
    (z_divmod : PySem.W.nsIn K mainGlobals "divmod" = some none)
    (z_int : PySem.W.nsIn K mainGlobals "int" = some none)
    (z_isinstance : PySem.W.nsIn K mainGlobals "isinstance" = some none)
    (z_len : PySem.W.nsIn K mainGlobals "len" = some none)
    (z_list : PySem.W.nsIn K mainGlobals "list" = some none)
    (z_max : PySem.W.nsIn K mainGlobals "max" = some none)
    (z_min : PySem.W.nsIn K mainGlobals "min" = some none)
    (z_range : PySem.W.nsIn K mainGlobals "range" = some none)
    (z_repr : PySem.W.nsIn K mainGlobals "repr" = some none)
    (z_str : PySem.W.nsIn K mainGlobals "str" = some none)
    (v_LETTERS_kinds : PySem.W.nsIn K mainGlobals "LETTERS_kinds" = some (some (.str "abcdefghijkl" tk_LETTERS_kinds)))
    (v_LETTERS_words : PySem.W.nsIn K mainGlobals "LETTERS_words" = some (some (.str "abcdefghijklmnopqrstuvwxyz" tk_LETTERS_words)))
    (v_MOST_LENGTH : PySem.W.nsIn K mainGlobals "MOST_LENGTH" = some (some (.int 1000000 tk_MOST_LENGTH)))
    (v_MOST_PLACES_kinds : PySem.W.nsIn K mainGlobals "MOST_PLACES_kinds" = some (some (.int 12 tk_MOST_PLACES_kinds)))
    (v_MOST_PLACES_webs : PySem.W.nsIn K mainGlobals "MOST_PLACES_webs" = some (some (.int 12 tk_MOST_PLACES_webs)))
    (v_MOST_SIGNS : PySem.W.nsIn K mainGlobals "MOST_SIGNS" = some (some (.int 1500 tk_MOST_SIGNS)))
    (v_MOST_TIES : PySem.W.nsIn K mainGlobals "MOST_TIES" = some (some (.int 40 tk_MOST_TIES)))
    (v_MOST_kinds : PySem.W.nsIn K mainGlobals "MOST_kinds" = some (some (.int 1000 tk_MOST_kinds)))
    (v_MOST_signs : PySem.W.nsIn K mainGlobals "MOST_signs" = some (some (.int 999999999999999999999999999999 tk_MOST_signs)))
    (v_KINDS : PySem.W.nsIn K mainGlobals "KINDS" = some (some (.ref aK_KINDS)))
    (vl_KINDS : K.lookup aK_KINDS = some ⟨.type "tuple", odK_KINDS, .seq #[.str "path" tkK_KINDS_0, .str "star" tkK_KINDS_1, .str "ring" tkK_KINDS_2, .str "pair" tkK_KINDS_3] nK_KINDS, slK_KINDS⟩) :
    ∃ fd : FuncData, (∀ (s : Shared) (v : Value), BindsTo s fd ⟨[v], []⟩ [("_law_script", v)]) ∧ ∀ base : Heap, K.In base → base.Ns mainGlobals mg → FnG l.prog w K mg base (L2.CX l.prog w) 9 fa fd ["_law_script"] (lift K S_law) := by
  have e := hfa.symm.trans (PySem.W.mg_of X G a22)
  cases e
  have F1 := fun_mk (st := s_is_whole) l1 c1 k1
  have b1 := F1.binds (ps := ["thing", "low", "high"]) fun _ _ _ _ _ _ us hl => match us, hl with | [_, _, _], _ => rfl
  have F2 := fun_mk (st := s_need_number) l2 c2 k2
  have b2 := F2.binds (ps := ["thing", "low"]) fun _ _ _ _ _ _ us hl => match us, hl with | [_, _], _ => rfl
  have F3 := fun_mk (st := s_row_by) l3 c3 k3
  have b3 := F3.binds (ps := ["number"]) fun _ _ _ _ _ _ us hl => match us, hl with | [_], _ => rfl
  have F4 := fun_mk (st := s_least_signs) l4 c4 k4
  have b4 := F4.binds (ps := ["many"]) fun _ _ _ _ _ _ us hl => match us, hl with | [_], _ => rfl
  have F5 := fun_mk (st := s_need_kind) l5 c5 k5
  have b5 := F5.binds (ps := ["word", "many", "most"]) fun _ _ _ _ _ _ us hl => match us, hl with | [_, _, _], _ => rfl
  have F6 := fun_mk (st := s_rows_for_pairs) l6 c6 k6
  have b6 := F6.binds (ps := ["many"]) fun _ _ _ _ _ _ us hl => match us, hl with | [_], _ => rfl
  have F7 := fun_mk (st := s_why_many) l7 c7 k7
  have b7 := F7.binds (ps := ["word", "many"]) fun _ _ _ _ _ _ us hl => match us, hl with | [_, _], _ => rfl
  have F8 := fun_mk (st := s_kind_rows) l8 c8 k8
  have b8 := F8.binds (ps := ["word", "many"]) fun _ _ _ _ _ _ us hl => match us, hl with | [_, _], _ => rfl
  have F9 := fun_mk (st := s_kind_far) l9 c9 k9
  have b9 := F9.binds (ps := ["word", "many", "one", "other"]) fun _ _ _ _ _ _ us hl => match us, hl with | [_, _, _, _], _ => rfl
  have F10 := fun_mk (st := s_kind_web) l10 c10 k10
  have b10 := F10.binds (ps := ["word", "many"]) fun _ _ _ _ _ _ us hl => match us, hl with | [_, _], _ => rfl
  have F11 := fun_mk (st := s_l_cell) l11 c11 k11
  have b11 := F11.binds (ps := ["_law_script", "_law_k"]) fun _ _ _ _ _ _ us hl => match us, hl with | [_, _], _ => rfl
  have F12 := fun_mk (st := s_l_box) l12 c12 k12
  have b12 := F12.binds (ps := ["_law_cell_here"]) fun _ _ _ _ _ _ us hl => match us, hl with | [_], _ => rfl
  have F13 := fun_mk (st := s_l_take) l13 c13 k13
  have b13 := F13.binds (ps := ["_law_box_here", "_law_many_here"]) fun _ _ _ _ _ _ us hl => match us, hl with | [_, _], _ => rfl
  have F14 := fun_mk (st := s_l_signs) l14 c14 k14
  have b14 := F14.binds (ps := ["_law_number"]) fun _ _ _ _ _ _ us hl => match us, hl with | [_], _ => rfl
  have F15 := fun_mk (st := s_l_longest) l15 c15 k15
  have b15 := F15.binds (ps := ["_law_many_here"]) fun _ _ _ _ _ _ us hl => match us, hl with | [_], _ => rfl
  have F16 := fun_mk (st := s_l_pairs) l16 c16 k16
  have b16 := F16.binds (ps := ["_law_many_here"]) fun _ _ _ _ _ _ us hl => match us, hl with | [_], _ => rfl
  have F17 := fun_mk (st := s_l_many) l17 c17 k17
  have b17 := F17.binds (ps := ["_law_box_here", "_law_word"]) fun _ _ _ _ _ _ us hl => match us, hl with | [_, _], _ => rfl
  have F18 := fun_mk (st := s_l_call) l18 c18 k18
  have b18 := F18.binds (ps := ["_law_way", "_law_word", "_law_many_here"]) fun _ _ _ _ _ _ us hl => match us, hl with | [_, _, _], _ => rfl
  have F19 := fun_mk (st := s_l_refused) l19 c19 k19
  have b19 := F19.binds (ps := ["_law_way", "_law_word", "_law_many_here"]) fun _ _ _ _ _ _ us hl => match us, hl with | [_, _, _], _ => rfl
  have F20 := fun_mk (st := s_l_rows_right) l20 c20 k20
  have b20 := F20.binds (ps := ["_law_word", "_law_many_here"]) fun _ _ _ _ _ _ us hl => match us, hl with | [_, _], _ => rfl
  have F21 := fun_mk (st := s_l_refusals_right) l21 c21 k21
  have b21 := F21.binds (ps := ["_law_box_here", "_law_word", "_law_many_here"]) fun _ _ _ _ _ _ us hl => match us, hl with | [_, _, _], _ => rfl
  have F22 := fun_mk (st := s_law) l22 c22 k22
  have b22 := F22.binds (ps := ["_law_script"]) fun _ _ _ _ _ _ us hl => match us, hl with | [_], _ => rfl
  let cn : Cn := { ad := fun n => [C0, C1, C2, C3, C4, C5, C6, C7, C8, C9, C10, C11, 0, aK_KINDS].getD n 0, fl := fun n => ([["found"], ["found"], ["found"], ["found"], ["found"], ["found"], ["found"], ["found"], ["found"], ["found"], ["found"], ["other", "one"]] : List (List Str)).getD n [], bs := CB }
  have hx0 : ExcAll K C0 ["found"] := ⟨⟨⟨_, _, _, _, _, _, _, _, _, _, _, _, _, _, _, xl0, xm0⟩, xs0, xe0, xt0, xk0⟩, ⟨xga0, xgg0, xe0, xhd0⟩, fun f hf => by cases List.mem_singleton.mp hf; exact xfo_0_0, by obtain ⟨_, hc, _⟩ := PySem.W.any_some xhd0; rw [hc]; rfl, xat0, xmo0, oN, oT⟩
  have hF0 := fun_mk (st := s_NoPlaces) xli0 xci0 xki0
  have hb0 := hF0.binds (ps := ["self", "found"]) fun _ _ _ _ _ _ us hl => match us, hl with | [_, _], _ => rfl
  have hx1 : ExcAll K C1 ["found"] := ⟨⟨⟨_, _, _, _, _, _, _, _, _, _, _, _, _, _, _, xl1, xm1⟩, xs1, xe1, xt1, xk1⟩, ⟨xga1, xgg1, xe1, xhd1⟩, fun f hf => by cases List.mem_singleton.mp hf; exact xfo_0_1, by obtain ⟨_, hc, _⟩ := PySem.W.any_some xhd1; rw [hc]; rfl, xat1, xmo1, oN, oT⟩
  have hF1 := fun_mk (st := s_NoName) xli1 xci1 xki1
  have hb1 := hF1.binds (ps := ["self", "found"]) fun _ _ _ _ _ _ us hl => match us, hl with | [_, _], _ => rfl
  have hx2 : ExcAll K C2 ["found"] := ⟨⟨⟨_, _, _, _, _, _, _, _, _, _, _, _, _, _, _, xl2, xm2⟩, xs2, xe2, xt2, xk2⟩, ⟨xga2, xgg2, xe2, xhd2⟩, fun f hf => by cases List.mem_singleton.mp hf; exact xfo_0_2, by obtain ⟨_, hc, _⟩ := PySem.W.any_some xhd2; rw [hc]; rfl, xat2, xmo2, oN, oT⟩
  have hF2 := fun_mk (st := s_Twice) xli2 xci2 xki2
  have hb2 := hF2.binds (ps := ["self", "found"]) fun _ _ _ _ _ _ us hl => match us, hl with | [_, _], _ => rfl
  have hx3 : ExcAll K C3 ["found"] := ⟨⟨⟨_, _, _, _, _, _, _, _, _, _, _, _, _, _, _, xl3, xm3⟩, xs3, xe3, xt3, xk3⟩, ⟨xga3, xgg3, xe3, xhd3⟩, fun f hf => by cases List.mem_singleton.mp hf; exact xfo_0_3, by obtain ⟨_, hc, _⟩ := PySem.W.any_some xhd3; rw [hc]; rfl, xat3, xmo3, oN, oT⟩
  have hF3 := fun_mk (st := s_NoTies) xli3 xci3 xki3
  have hb3 := hF3.binds (ps := ["self", "found"]) fun _ _ _ _ _ _ us hl => match us, hl with | [_, _], _ => rfl
  have hx4 : ExcAll K C4 ["found"] := ⟨⟨⟨_, _, _, _, _, _, _, _, _, _, _, _, _, _, _, xl4, xm4⟩, xs4, xe4, xt4, xk4⟩, ⟨xga4, xgg4, xe4, xhd4⟩, fun f hf => by cases List.mem_singleton.mp hf; exact xfo_0_4, by obtain ⟨_, hc, _⟩ := PySem.W.any_some xhd4; rw [hc]; rfl, xat4, xmo4, oN, oT⟩
  have hF4 := fun_mk (st := s_NoTie) xli4 xci4 xki4
  have hb4 := hF4.binds (ps := ["self", "found"]) fun _ _ _ _ _ _ us hl => match us, hl with | [_, _], _ => rfl
  have hx5 : ExcAll K C5 ["found"] := ⟨⟨⟨_, _, _, _, _, _, _, _, _, _, _, _, _, _, _, xl5, xm5⟩, xs5, xe5, xt5, xk5⟩, ⟨xga5, xgg5, xe5, xhd5⟩, fun f hf => by cases List.mem_singleton.mp hf; exact xfo_0_5, by obtain ⟨_, hc, _⟩ := PySem.W.any_some xhd5; rw [hc]; rfl, xat5, xmo5, oN, oT⟩
  have hF5 := fun_mk (st := s_NoPlace) xli5 xci5 xki5
  have hb5 := hF5.binds (ps := ["self", "found"]) fun _ _ _ _ _ _ us hl => match us, hl with | [_, _], _ => rfl
  have hx6 : ExcAll K C6 ["found"] := ⟨⟨⟨_, _, _, _, _, _, _, _, _, _, _, _, _, _, _, xl6, xm6⟩, xs6, xe6, xt6, xk6⟩, ⟨xga6, xgg6, xe6, xhd6⟩, fun f hf => by cases List.mem_singleton.mp hf; exact xfo_0_6, by obtain ⟨_, hc, _⟩ := PySem.W.any_some xhd6; rw [hc]; rfl, xat6, xmo6, oN, oT⟩
  have hF6 := fun_mk (st := s_Loop) xli6 xci6 xki6
  have hb6 := hF6.binds (ps := ["self", "found"]) fun _ _ _ _ _ _ us hl => match us, hl with | [_, _], _ => rfl
  have hx7 : ExcAll K C7 ["found"] := ⟨⟨⟨_, _, _, _, _, _, _, _, _, _, _, _, _, _, _, xl7, xm7⟩, xs7, xe7, xt7, xk7⟩, ⟨xga7, xgg7, xe7, xhd7⟩, fun f hf => by cases List.mem_singleton.mp hf; exact xfo_0_7, by obtain ⟨_, hc, _⟩ := PySem.W.any_some xhd7; rw [hc]; rfl, xat7, xmo7, oN, oT⟩
  have hF7 := fun_mk (st := s_NoLength) xli7 xci7 xki7
  have hb7 := hF7.binds (ps := ["self", "found"]) fun _ _ _ _ _ _ us hl => match us, hl with | [_, _], _ => rfl
  have hx8 : ExcAll K C8 ["found"] := ⟨⟨⟨_, _, _, _, _, _, _, _, _, _, _, _, _, _, _, xl8, xm8⟩, xs8, xe8, xt8, xk8⟩, ⟨xga8, xgg8, xe8, xhd8⟩, fun f hf => by cases List.mem_singleton.mp hf; exact xfo_0_8, by obtain ⟨_, hc, _⟩ := PySem.W.any_some xhd8; rw [hc]; rfl, xat8, xmo8, oN, oT⟩
  have hF8 := fun_mk (st := s_NoNumber) xli8 xci8 xki8
  have hb8 := hF8.binds (ps := ["self", "found"]) fun _ _ _ _ _ _ us hl => match us, hl with | [_, _], _ => rfl
  have hx9 : ExcAll K C9 ["found"] := ⟨⟨⟨_, _, _, _, _, _, _, _, _, _, _, _, _, _, _, xl9, xm9⟩, xs9, xe9, xt9, xk9⟩, ⟨xga9, xgg9, xe9, xhd9⟩, fun f hf => by cases List.mem_singleton.mp hf; exact xfo_0_9, by obtain ⟨_, hc, _⟩ := PySem.W.any_some xhd9; rw [hc]; rfl, xat9, xmo9, oN, oT⟩
  have hF9 := fun_mk (st := s_NoSigns) xli9 xci9 xki9
  have hb9 := hF9.binds (ps := ["self", "found"]) fun _ _ _ _ _ _ us hl => match us, hl with | [_, _], _ => rfl
  have hx10 : ExcAll K C10 ["found"] := ⟨⟨⟨_, _, _, _, _, _, _, _, _, _, _, _, _, _, _, xl10, xm10⟩, xs10, xe10, xt10, xk10⟩, ⟨xga10, xgg10, xe10, xhd10⟩, fun f hf => by cases List.mem_singleton.mp hf; exact xfo_0_10, by obtain ⟨_, hc, _⟩ := PySem.W.any_some xhd10; rw [hc]; rfl, xat10, xmo10, oN, oT⟩
  have hF10 := fun_mk (st := s_NoKind) xli10 xci10 xki10
  have hb10 := hF10.binds (ps := ["self", "found"]) fun _ _ _ _ _ _ us hl => match us, hl with | [_, _], _ => rfl
  have hx11 : ExcAll K C11 ["other", "one"] := ⟨⟨⟨_, _, _, _, _, _, _, _, _, _, _, _, _, _, _, xl11, xm11⟩, xs11, xe11, xt11, xk11⟩, ⟨xga11, xgg11, xe11, xhd11⟩, fun f hf => (List.mem_cons.mp hf).elim (fun e => by subst e; exact xfo_0_11) (fun e => by cases List.mem_singleton.mp e; exact xfo_1_11), by obtain ⟨_, hc, _⟩ := PySem.W.any_some xhd11; rw [hc]; rfl, xat11, xmo11, oN, oT⟩
  have hF11 := fun_mk (st := s_Tied) xli11 xci11 xki11
  have hb11 := hF11.binds (ps := ["self", "one", "other"]) fun _ _ _ _ _ _ us hl => match us, hl with | [_, _, _], _ => rfl
  have hxf : XF K cn := { all_NoPlaces := hx0, fl_NoPlaces := rfl, ex_NoPlaces := PySem.W.exm_ref bB4 bB5 bB6 xsb0, exm_NoPlaces_NoNumber := PySem.W.exm_ref xe8 xhd8 xt8 xu0_8, exm_NoPlaces_NoKind := PySem.W.exm_ref xe10 xhd10 xt10 xu0_10, all_NoName := hx1, fl_NoName := rfl, ex_NoName := PySem.W.exm_ref bB4 bB5 bB6 xsb1, exm_NoName_NoNumber := PySem.W.exm_ref xe8 xhd8 xt8 xu1_8, exm_NoName_NoKind := PySem.W.exm_ref xe10 xhd10 xt10 xu1_10, all_Twice := hx2, fl_Twice := rfl, ex_Twice := PySem.W.exm_ref bB4 bB5 bB6 xsb2, exm_Twice_NoNumber := PySem.W.exm_ref xe8 xhd8 xt8 xu2_8, exm_Twice_NoKind := PySem.W.exm_ref xe10 xhd10 xt10 xu2_10, all_NoTies := hx3, fl_NoTies := rfl, ex_NoTies := PySem.W.exm_ref bB4 bB5 bB6 xsb3, exm_NoTies_NoNumber := PySem.W.exm_ref xe8 xhd8 xt8 xu3_8, exm_NoTies_NoKind := PySem.W.exm_ref xe10 xhd10 xt10 xu3_10, all_NoTie := hx4, fl_NoTie := rfl, ex_NoTie := PySem.W.exm_ref bB4 bB5 bB6 xsb4, exm_NoTie_NoNumber := PySem.W.exm_ref xe8 xhd8 xt8 xu4_8, exm_NoTie_NoKind := PySem.W.exm_ref xe10 xhd10 xt10 xu4_10, all_NoPlace := hx5, fl_NoPlace := rfl, ex_NoPlace := PySem.W.exm_ref bB4 bB5 bB6 xsb5, exm_NoPlace_NoNumber := PySem.W.exm_ref xe8 xhd8 xt8 xu5_8, exm_NoPlace_NoKind := PySem.W.exm_ref xe10 xhd10 xt10 xu5_10, all_Loop := hx6, fl_Loop := rfl, ex_Loop := PySem.W.exm_ref bB4 bB5 bB6 xsb6, exm_Loop_NoNumber := PySem.W.exm_ref xe8 xhd8 xt8 xu6_8, exm_Loop_NoKind := PySem.W.exm_ref xe10 xhd10 xt10 xu6_10, all_NoLength := hx7, fl_NoLength := rfl, ex_NoLength := PySem.W.exm_ref bB4 bB5 bB6 xsb7, exm_NoLength_NoNumber := PySem.W.exm_ref xe8 xhd8 xt8 xu7_8, exm_NoLength_NoKind := PySem.W.exm_ref xe10 xhd10 xt10 xu7_10, all_NoNumber := hx8, fl_NoNumber := rfl, ex_NoNumber := PySem.W.exm_ref bB4 bB5 bB6 xsb8, exm_NoNumber_NoNumber := PySem.W.exm_ref xe8 xhd8 xt8 xu8_8, exm_NoNumber_NoKind := PySem.W.exm_ref xe10 xhd10 xt10 xu8_10, all_NoSigns := hx9, fl_NoSigns := rfl, ex_NoSigns := PySem.W.exm_ref bB4 bB5 bB6 xsb9, exm_NoSigns_NoNumber := PySem.W.exm_ref xe8 xhd8 xt8 xu9_8, exm_NoSigns_NoKind := PySem.W.exm_ref xe10 xhd10 xt10 xu9_10, all_NoKind := hx10, fl_NoKind := rfl, ex_NoKind := PySem.W.exm_ref bB4 bB5 bB6 xsb10, exm_NoKind_NoNumber := PySem.W.exm_ref xe8 xhd8 xt8 xu10_8, exm_NoKind_NoKind := PySem.W.exm_ref xe10 xhd10 xt10 xu10_10, all_Tied := hx11, fl_Tied := rfl, ex_Tied := PySem.W.exm_ref bB4 bB5 bB6 xsb11, exm_Tied_NoNumber := PySem.W.exm_ref xe8 xhd8 xt8 xu11_8, exm_Tied_NoKind := PySem.W.exm_ref xe10 xhd10 xt10 xu11_10, k_KINDS := ⟨_, _, _, vl_KINDS, rfl, rfl, by show _ ≤ sizeLine; rw [sizeLine_eq]; exact Nat.le_of_ble_eq_true rfl, .cons ⟨_, rfl⟩ (.cons ⟨_, rfl⟩ (.cons ⟨_, rfl⟩ (.cons ⟨_, rfl⟩ (.nil))))⟩ }
  let T : Txt K mg cn := { xf := hxf, xb := ⟨PySem.W.mg_of X G aB, ⟨bB1, bB2⟩, bB3⟩, fi_NoPlaces := _, fd_NoPlaces := _, x_NoPlaces := ⟨hx0, PySem.W.mg_of X G xa0, xi0, xti0, hF0, hb0⟩, fi_NoName := _, fd_NoName := _, x_NoName := ⟨hx1, PySem.W.mg_of X G xa1, xi1, xti1, hF1, hb1⟩, fi_Twice := _, fd_Twice := _, x_Twice := ⟨hx2, PySem.W.mg_of X G xa2, xi2, xti2, hF2, hb2⟩, fi_NoTies := _, fd_NoTies := _, x_NoTies := ⟨hx3, PySem.W.mg_of X G xa3, xi3, xti3, hF3, hb3⟩, fi_NoTie := _, fd_NoTie := _, x_NoTie := ⟨hx4, PySem.W.mg_of X G xa4, xi4, xti4, hF4, hb4⟩, fi_NoPlace := _, fd_NoPlace := _, x_NoPlace := ⟨hx5, PySem.W.mg_of X G xa5, xi5, xti5, hF5, hb5⟩, fi_Loop := _, fd_Loop := _, x_Loop := ⟨hx6, PySem.W.mg_of X G xa6, xi6, xti6, hF6, hb6⟩, fi_NoLength := _, fd_NoLength := _, x_NoLength := ⟨hx7, PySem.W.mg_of X G xa7, xi7, xti7, hF7, hb7⟩, fi_NoNumber := _, fd_NoNumber := _, x_NoNumber := ⟨hx8, PySem.W.mg_of X G xa8, xi8, xti8, hF8, hb8⟩, fi_NoSigns := _, fd_NoSigns := _, x_NoSigns := ⟨hx9, PySem.W.mg_of X G xa9, xi9, xti9, hF9, hb9⟩, fi_NoKind := _, fd_NoKind := _, x_NoKind := ⟨hx10, PySem.W.mg_of X G xa10, xi10, xti10, hF10, hb10⟩, fi_Tied := _, fd_Tied := _, x_Tied := ⟨hx11, PySem.W.mg_of X G xa11, xi11, xti11, hF11, hb11⟩, a_is_whole := _, f_is_whole := _, d_is_whole := ⟨F1, b1, PySem.W.mg_of X G a1⟩, a_need_number := _, f_need_number := _, d_need_number := ⟨F2, b2, PySem.W.mg_of X G a2⟩, a_row_by := _, f_row_by := _, d_row_by := ⟨F3, b3, PySem.W.mg_of X G a3⟩, a_least_signs := _, f_least_signs := _, d_least_signs := ⟨F4, b4, PySem.W.mg_of X G a4⟩, a_need_kind := _, f_need_kind := _, d_need_kind := ⟨F5, b5, PySem.W.mg_of X G a5⟩, a_rows_for_pairs := _, f_rows_for_pairs := _, d_rows_for_pairs := ⟨F6, b6, PySem.W.mg_of X G a6⟩, a_why_many := _, f_why_many := _, d_why_many := ⟨F7, b7, PySem.W.mg_of X G a7⟩, a_kind_rows := _, f_kind_rows := _, d_kind_rows := ⟨F8, b8, PySem.W.mg_of X G a8⟩, a_kind_far := _, f_kind_far := _, d_kind_far := ⟨F9, b9, PySem.W.mg_of X G a9⟩, a_kind_web := _, f_kind_web := _, d_kind_web := ⟨F10, b10, PySem.W.mg_of X G a10⟩, a_l_cell := _, f_l_cell := _, d_l_cell := ⟨F11, b11, PySem.W.mg_of X G a11⟩, a_l_box := _, f_l_box := _, d_l_box := ⟨F12, b12, PySem.W.mg_of X G a12⟩, a_l_take := _, f_l_take := _, d_l_take := ⟨F13, b13, PySem.W.mg_of X G a13⟩, a_l_signs := _, f_l_signs := _, d_l_signs := ⟨F14, b14, PySem.W.mg_of X G a14⟩, a_l_longest := _, f_l_longest := _, d_l_longest := ⟨F15, b15, PySem.W.mg_of X G a15⟩, a_l_pairs := _, f_l_pairs := _, d_l_pairs := ⟨F16, b16, PySem.W.mg_of X G a16⟩, a_l_many := _, f_l_many := _, d_l_many := ⟨F17, b17, PySem.W.mg_of X G a17⟩, a_l_call := _, f_l_call := _, d_l_call := ⟨F18, b18, PySem.W.mg_of X G a18⟩, a_l_refused := _, f_l_refused := _, d_l_refused := ⟨F19, b19, PySem.W.mg_of X G a19⟩, a_l_rows_right := _, f_l_rows_right := _, d_l_rows_right := ⟨F20, b20, PySem.W.mg_of X G a20⟩, a_l_refusals_right := _, f_l_refusals_right := _, d_l_refusals_right := ⟨F21, b21, PySem.W.mg_of X G a21⟩, a_law := _, f_law := _, d_law := ⟨F22, b22, PySem.W.mg_of X G a22⟩, g_KINDS := PySem.W.mg_of X G v_KINDS, n_bool := PySem.W.mg_none_of X G z_bool, n_divmod := PySem.W.mg_none_of X G z_divmod, n_int := PySem.W.mg_none_of X G z_int, n_isinstance := PySem.W.mg_none_of X G z_isinstance, n_len := PySem.W.mg_none_of X G z_len, n_list := PySem.W.mg_none_of X G z_list, n_max := PySem.W.mg_none_of X G z_max, n_min := PySem.W.mg_none_of X G z_min, n_range := PySem.W.mg_none_of X G z_range, n_repr := PySem.W.mg_none_of X G z_repr, n_str := PySem.W.mg_none_of X G z_str, c_LETTERS_kinds := ⟨_, PySem.W.mg_of X G v_LETTERS_kinds⟩, c_LETTERS_words := ⟨_, PySem.W.mg_of X G v_LETTERS_words⟩, c_MOST_LENGTH := ⟨_, PySem.W.mg_of X G v_MOST_LENGTH⟩, c_MOST_PLACES_kinds := ⟨_, PySem.W.mg_of X G v_MOST_PLACES_kinds⟩, c_MOST_PLACES_webs := ⟨_, PySem.W.mg_of X G v_MOST_PLACES_webs⟩, c_MOST_SIGNS := ⟨_, PySem.W.mg_of X G v_MOST_SIGNS⟩, c_MOST_TIES := ⟨_, PySem.W.mg_of X G v_MOST_TIES⟩, c_MOST_kinds := ⟨_, PySem.W.mg_of X G v_MOST_kinds⟩, c_MOST_signs := ⟨_, PySem.W.mg_of X G v_MOST_signs⟩ }
  exact ⟨PySem.W.fnOf "law" "law" (defArgs s_law) (defBody s_law) (defScope s_law) .none kV22 dc22 pm22 an22 cd22 ct22, fun s v => .of_eq rfl, fun base _ _ => ok_all T⟩

end Lw
open PySem PySem.W PyProof.Rows
set_option maxHeartbeats 0 in
theorem PySem.Challenge.cw_farmarks_k86_kinds_and_least_signs_holds : PySem.Challenge.rw_farmarks_k86_kinds_and_least_signs.Holds := by
  w_on; o_law; k_head; (case hw => w_witness2)
  k_fill
  refine DL.walk_ofG (l := PySem.Challenge.rw_farmarks_k86_kinds_and_least_signs) (n := 63) (k := 9) (x := "_law_script") (CX := fun w => L2.CX PySem.Challenge.rw_farmarks_k86_kinds_and_least_signs.prog w) (sp := fun w => DL.lift _ Lw.S_law) (by decide +kernel) rfl (by decide) rfl ⟨rfl, by decide, by decide⟩ (fun w h Y => PySem.W.kIn_of Y) ?F (fun _ H a ns hl hb _ hS => Lw.law_in hl hb hS) (fun _ _ _ _ _ h => by obtain ⟨_, _, _, _, _, _, _, _, _, _, _, _, z⟩ := h; exact z.elim)
  case F =>
    intro w mg fa h KX G hmg
    refine' Lw.all_mk KX G hmg ?a1 ?l1 ?c1 ?k1 ?a2 ?l2 ?c2 ?k2 ?a3 ?l3 ?c3 ?k3 ?a4 ?l4 ?c4 ?k4 ?a5 ?l5 ?c5 ?k5 ?a6 ?l6 ?c6 ?k6 ?a7 ?l7 ?c7 ?k7 ?a8 ?l8 ?c8 ?k8 ?a9 ?l9 ?c9 ?k9 ?a10 ?l10 ?c10 ?k10 ?a11 ?l11 ?c11 ?k11 ?a12 ?l12 ?c12 ?k12 ?a13 ?l13 ?c13 ?k13 ?a14 ?l14 ?c14 ?k14 ?a15 ?l15 ?c15 ?k15 ?a16 ?l16 ?c16 ?k16 ?a17 ?l17 ?c17 ?k17 ?a18 ?l18 ?c18 ?k18 ?a19 ?l19 ?c19 ?k19 ?a20 ?l20 ?c20 ?k20 ?a21 ?l21 ?c21 ?k21 ?a22 ?l22 ?c22 ?k22 ?aB ?bB1 ?bB2 ?bB3 ?bB4 ?bB5 ?bB6 ?oN ?oT ?xa0 ?xl0 ?xm0 ?xs0 ?xe0 ?xt0 ?xk0 ?xga0 ?xgg0 ?xhd0 ?xat0 ?xmo0 ?xi0 ?xti0 ?xli0 ?xci0 ?xki0 ?xsb0 ?xfo_0_0 ?xa1 ?xl1 ?xm1 ?xs1 ?xe1 ?xt1 ?xk1 ?xga1 ?xgg1 ?xhd1 ?xat1 ?xmo1 ?xi1 ?xti1 ?xli1 ?xci1 ?xki1 ?xsb1 ?xfo_0_1 ?xa2 ?xl2 ?xm2 ?xs2 ?xe2 ?xt2 ?xk2 ?xga2 ?xgg2 ?xhd2 ?xat2 ?xmo2 ?xi2 ?xti2 ?xli2 ?xci2 ?xki2 ?xsb2 ?xfo_0_2 ?xa3 ?xl3 ?xm3 ?xs3 ?xe3 ?xt3 ?xk3 ?xga3 ?xgg3 ?xhd3 ?xat3 ?xmo3 ?xi3 ?xti3 ?xli3 ?xci3 ?xki3 ?xsb3 ?xfo_0_3 ?xa4 ?xl4 ?xm4 ?xs4 ?xe4 ?xt4 ?xk4 ?xga4 ?xgg4 ?xhd4 ?xat4 ?xmo4 ?xi4 ?xti4 ?xli4 ?xci4 ?xki4 ?xsb4 ?xfo_0_4 ?xa5 ?xl5 ?xm5 ?xs5 ?xe5 ?xt5 ?xk5 ?xga5 ?xgg5 ?xhd5 ?xat5 ?xmo5 ?xi5 ?xti5 ?xli5 ?xci5 ?xki5 ?xsb5 ?xfo_0_5 ?xa6 ?xl6 ?xm6 ?xs6 ?xe6 ?xt6 ?xk6 ?xga6 ?xgg6 ?xhd6 ?xat6 ?xmo6 ?xi6 ?xti6 ?xli6 ?xci6 ?xki6 ?xsb6 ?xfo_0_6 ?xa7 ?xl7 ?xm7 ?xs7 ?xe7 ?xt7 ?xk7 ?xga7 ?xgg7 ?xhd7 ?xat7 ?xmo7 ?xi7 ?xti7 ?xli7 ?xci7 ?xki7 ?xsb7 ?xfo_0_7 ?xa8 ?xl8 ?xm8 ?xs8 ?xe8 ?xt8 ?xk8 ?xga8 ?xgg8 ?xhd8 ?xat8 ?xmo8 ?xi8 ?xti8 ?xli8 ?xci8 ?xki8 ?xsb8 ?xfo_0_8 ?xa9 ?xl9 ?xm9 ?xs9 ?xe9 ?xt9 ?xk9 ?xga9 ?xgg9 ?xhd9 ?xat9 ?xmo9 ?xi9 ?xti9 ?xli9 ?xci9 ?xki9 ?xsb9 ?xfo_0_9 ?xa10 ?xl10 ?xm10 ?xs10 ?xe10 ?xt10 ?xk10 ?xga10 ?xgg10 ?xhd10 ?xat10 ?xmo10 ?xi10 ?xti10 ?xli10 ?xci10 ?xki10 ?xsb10 ?xfo_0_10 ?xa11 ?xl11 ?xm11 ?xs11 ?xe11 ?xt11 ?xk11 ?xga11 ?xgg11 ?xhd11 ?xat11 ?xmo11 ?xi11 ?xti11 ?xli11 ?xci11 ?xki11 ?xsb11 ?xfo_0_11 ?xfo_1_11 ?xu0_8 ?xu0_10 ?xu1_8 ?xu1_10 ?xu2_8 ?xu2_10 ?xu3_8 ?xu3_10 ?xu4_8 ?xu4_10 ?xu5_8 ?xu5_10 ?xu6_8 ?xu6_10 ?xu7_8 ?xu7_10 ?xu8_8 ?xu8_10 ?xu9_8 ?xu9_10 ?xu10_8 ?xu10_10 ?xu11_8 ?xu11_10 ?z_bool ?z_divmod ?z_int ?z_isinstance ?z_len ?z_list ?z_max ?z_min ?z_range ?z_repr ?z_str ?v_LETTERS_kinds ?v_LETTERS_words ?v_MOST_LENGTH ?v_MOST_PLACES_kinds ?v_MOST_PLACES_webs ?v_MOST_SIGNS ?v_MOST_TIES ?v_MOST_kinds ?v_MOST_signs ?v_KINDS ?vl_KINDS
    (case a1 => k_is); (case l1 => k_is); (case c1 => k_is); (case k1 => k_is); (case a2 => k_is); (case l2 => k_is); (case c2 => k_is); (case k2 => k_is); (case a3 => k_is); (case l3 => k_is); (case c3 => k_is); (case k3 => k_is); (case a4 => k_is); (case l4 => k_is); (case c4 => k_is); (case k4 => k_is); (case a5 => k_is); (case l5 => k_is); (case c5 => k_is); (case k5 => k_is); (case a6 => k_is); (case l6 => k_is); (case c6 => k_is); (case k6 => k_is); (case a7 => k_is); (case l7 => k_is); (case c7 => k_is); (case k7 => k_is); (case a8 => k_is); (case l8 => k_is); (case c8 => k_is); (case k8 => k_is); (case a9 => k_is); (case l9 => k_is); (case c9 => k_is); (case k9 => k_is); (case a10 => k_is); (case l10 => k_is); (case c10 => k_is); (case k10 => k_is); (case a11 => k_is); (case l11 => k_is); (case c11 => k_is); (case k11 => k_is); (case a12 => k_is); (case l12 => k_is); (case c12 => k_is); (case k12 => k_is); (case a13 => k_is); (case l13 => k_is); (case c13 => k_is); (case k13 => k_is); (case a14 => k_is); (case l14 => k_is); (case c14 => k_is); (case k14 => k_is); (case a15 => k_is); (case l15 => k_is); (case c15 => k_is); (case k15 => k_is); (case a16 => k_is); (case l16 => k_is); (case c16 => k_is); (case k16 => k_is); (case a17 => k_is); (case l17 => k_is); (case c17 => k_is); (case k17 => k_is); (case a18 => k_is); (case l18 => k_is); (case c18 => k_is); (case k18 => k_is); (case a19 => k_is); (case l19 => k_is); (case c19 => k_is); (case k19 => k_is); (case a20 => k_is); (case l20 => k_is); (case c20 => k_is); (case k20 => k_is); (case a21 => k_is); (case l21 => k_is); (case c21 => k_is); (case k21 => k_is); (case a22 => k_is); (case l22 => k_is); (case c22 => k_is); (case k22 => k_is); (case aB => k_is); (case bB1 => k_is); (case bB2 => k_is); (case bB3 => k_is); (case bB4 => k_is); (case bB5 => k_is); (case bB6 => k_is); (case oN => k_is); (case oT => k_is); (case xa0 => k_is); (case xl0 => k_is); (case xm0 => rfl); (case xs0 => k_is); (case xe0 => k_is); (case xt0 => k_is); (case xk0 => k_is); (case xga0 => k_is); (case xgg0 => k_is); (case xhd0 => k_is); (case xat0 => k_is); (case xmo0 => k_is); (case xi0 => k_is); (case xti0 => k_is); (case xli0 => k_is); (case xci0 => k_is); (case xki0 => k_is); (case xsb0 => k_is); (case xfo_0_0 => k_is); (case xa1 => k_is); (case xl1 => k_is); (case xm1 => rfl); (case xs1 => k_is); (case xe1 => k_is); (case xt1 => k_is); (case xk1 => k_is); (case xga1 => k_is); (case xgg1 => k_is); (case xhd1 => k_is); (case xat1 => k_is); (case xmo1 => k_is); (case xi1 => k_is); (case xti1 => k_is); (case xli1 => k_is); (case xci1 => k_is); (case xki1 => k_is); (case xsb1 => k_is); (case xfo_0_1 => k_is); (case xa2 => k_is); (case xl2 => k_is); (case xm2 => rfl); (case xs2 => k_is); (case xe2 => k_is); (case xt2 => k_is); (case xk2 => k_is); (case xga2 => k_is); (case xgg2 => k_is); (case xhd2 => k_is); (case xat2 => k_is); (case xmo2 => k_is); (case xi2 => k_is); (case xti2 => k_is); (case xli2 => k_is); (case xci2 => k_is); (case xki2 => k_is); (case xsb2 => k_is); (case xfo_0_2 => k_is); (case xa3 => k_is); (case xl3 => k_is); (case xm3 => rfl); (case xs3 => k_is); (case xe3 => k_is); (case xt3 => k_is); (case xk3 => k_is); (case xga3 => k_is); (case xgg3 => k_is); (case xhd3 => k_is); (case xat3 => k_is); (case xmo3 => k_is); (case xi3 => k_is); (case xti3 => k_is); (case xli3 => k_is); (case xci3 => k_is); (case xki3 => k_is); (case xsb3 => k_is); (case xfo_0_3 => k_is); (case xa4 => k_is); (case xl4 => k_is); (case xm4 => rfl); (case xs4 => k_is); (case xe4 => k_is); (case xt4 => k_is); (case xk4 => k_is); (case xga4 => k_is); (case xgg4 => k_is); (case xhd4 => k_is); (case xat4 => k_is); (case xmo4 => k_is); (case xi4 => k_is); (case xti4 => k_is); (case xli4 => k_is); (case xci4 => k_is); (case xki4 => k_is); (case xsb4 => k_is); (case xfo_0_4 => k_is); (case xa5 => k_is); (case xl5 => k_is); (case xm5 => rfl); (case xs5 => k_is); (case xe5 => k_is); (case xt5 => k_is); (case xk5 => k_is); (case xga5 => k_is); (case xgg5 => k_is); (case xhd5 => k_is); (case xat5 => k_is); (case xmo5 => k_is); (case xi5 => k_is); (case xti5 => k_is); (case xli5 => k_is); (case xci5 => k_is); (case xki5 => k_is); (case xsb5 => k_is); (case xfo_0_5 => k_is); (case xa6 => k_is); (case xl6 => k_is); (case xm6 => rfl); (case xs6 => k_is); (case xe6 => k_is); (case xt6 => k_is); (case xk6 => k_is); (case xga6 => k_is); (case xgg6 => k_is); (case xhd6 => k_is); (case xat6 => k_is); (case xmo6 => k_is); (case xi6 => k_is); (case xti6 => k_is); (case xli6 => k_is); (case xci6 => k_is); (case xki6 => k_is); (case xsb6 => k_is); (case xfo_0_6 => k_is); (case xa7 => k_is); (case xl7 => k_is); (case xm7 => rfl); (case xs7 => k_is); (case xe7 => k_is); (case xt7 => k_is); (case xk7 => k_is); (case xga7 => k_is); (case xgg7 => k_is); (case xhd7 => k_is); (case xat7 => k_is); (case xmo7 => k_is); (case xi7 => k_is); (case xti7 => k_is); (case xli7 => k_is); (case xci7 => k_is); (case xki7 => k_is); (case xsb7 => k_is); (case xfo_0_7 => k_is); (case xa8 => k_is); (case xl8 => k_is); (case xm8 => rfl); (case xs8 => k_is); (case xe8 => k_is); (case xt8 => k_is); (case xk8 => k_is); (case xga8 => k_is); (case xgg8 => k_is); (case xhd8 => k_is); (case xat8 => k_is); (case xmo8 => k_is); (case xi8 => k_is); (case xti8 => k_is); (case xli8 => k_is); (case xci8 => k_is); (case xki8 => k_is); (case xsb8 => k_is); (case xfo_0_8 => k_is); (case xa9 => k_is); (case xl9 => k_is); (case xm9 => rfl); (case xs9 => k_is); (case xe9 => k_is); (case xt9 => k_is); (case xk9 => k_is); (case xga9 => k_is); (case xgg9 => k_is); (case xhd9 => k_is); (case xat9 => k_is); (case xmo9 => k_is); (case xi9 => k_is); (case xti9 => k_is); (case xli9 => k_is); (case xci9 => k_is); (case xki9 => k_is); (case xsb9 => k_is); (case xfo_0_9 => k_is); (case xa10 => k_is); (case xl10 => k_is); (case xm10 => rfl); (case xs10 => k_is); (case xe10 => k_is); (case xt10 => k_is); (case xk10 => k_is); (case xga10 => k_is); (case xgg10 => k_is); (case xhd10 => k_is); (case xat10 => k_is); (case xmo10 => k_is); (case xi10 => k_is); (case xti10 => k_is); (case xli10 => k_is); (case xci10 => k_is); (case xki10 => k_is); (case xsb10 => k_is); (case xfo_0_10 => k_is); (case xa11 => k_is); (case xl11 => k_is); (case xm11 => rfl); (case xs11 => k_is); (case xe11 => k_is); (case xt11 => k_is); (case xk11 => k_is); (case xga11 => k_is); (case xgg11 => k_is); (case xhd11 => k_is); (case xat11 => k_is); (case xmo11 => k_is); (case xi11 => k_is); (case xti11 => k_is); (case xli11 => k_is); (case xci11 => k_is); (case xki11 => k_is); (case xsb11 => k_is); (case xfo_0_11 => k_is); (case xfo_1_11 => k_is); (case xu0_8 => k_is); (case xu0_10 => k_is); (case xu1_8 => k_is); (case xu1_10 => k_is); (case xu2_8 => k_is); (case xu2_10 => k_is); (case xu3_8 => k_is); (case xu3_10 => k_is); (case xu4_8 => k_is); (case xu4_10 => k_is); (case xu5_8 => k_is); (case xu5_10 => k_is); (case xu6_8 => k_is); (case xu6_10 => k_is); (case xu7_8 => k_is); (case xu7_10 => k_is); (case xu8_8 => k_is); (case xu8_10 => k_is); (case xu9_8 => k_is); (case xu9_10 => k_is); (case xu10_8 => k_is); (case xu10_10 => k_is); (case xu11_8 => k_is); (case xu11_10 => k_is); (case z_bool => k_is); (case z_divmod => k_is); (case z_int => k_is); (case z_isinstance => k_is); (case z_len => k_is); (case z_list => k_is); (case z_max => k_is); (case z_min => k_is); (case z_range => k_is); (case z_repr => k_is); (case z_str => k_is); (case v_LETTERS_kinds => k_is); (case v_LETTERS_words => k_is); (case v_MOST_LENGTH => k_is); (case v_MOST_PLACES_kinds => k_is); (case v_MOST_PLACES_webs => k_is); (case v_MOST_SIGNS => k_is); (case v_MOST_TIES => k_is); (case v_MOST_kinds => k_is); (case v_MOST_signs => k_is); (case v_KINDS => k_is); (case vl_KINDS => k_is)
